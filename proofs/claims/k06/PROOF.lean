import PyProof.Rows.All
import Wide.All
import OpenK.AllK
import Wide.FinOn
import HandS.ForMost
import HandS.WideBits
import HandS.Wide
import HandS.IsInst
import HandS.Evl
import HandS.Codes
import HandS.Defaults
import HandS.Style
import HandS.RaiseMore
import KE.KDictPairs
import KE.KDictSum
import HandS.DictTup
import HandS.SortRule
import HandS.SortInts
import HandS.Conv
import HandS.Deep
import HandS.Small
import HandS.TupAny
import PyProof.P3Eq
import HandS.ExcInit
import HandS.TryMany
import HandS.Lambda
import HandS.EndTab
import KE.KNestM
import HandS.ExcIs
import HandS.ExcField
import HandS.WordsExc
import KE.KExcIs
import KE.KTryMore
import HandS.MakeKwOnly
import HandS.Star
import KE.KOpsOwn
import KE.KCallOwn
import HandS.CallRecv
import HandS.OwnEq
import PyProof.InstNe
import PyProof.StrBlock2
import PyProof.StrReplace2
import HandS.Text
import HandS.FStr
import HandS.Replace
import HandS.ReplaceList
import PySem.Challenge.RW_allscreens_k06_mirrors_by_points
set_option Elab.async false
set_option linter.all false
set_option maxRecDepth 100000
set_option maxHeartbeats 1000000
/-! The base of all proofs here: pools of draws as opaque objects, calls, values told in a heap. -/
namespace Lw
open PySem PySem.Spec PyProof.Rows L2 Evl

/-! ### a pool of draws: a list of three ints, whatever they are -/
def poolP (p : Addr) : Heap → Prop := fun h => ∃ (a b c : Int) (its : List Value) (n : Nat), Vals [.int a, .int b, .int c] its ∧ h.get? p = some { cls := .type "list", data := .seq its.toArray n }
def Pool (H : Hp) (p : Addr) : Prop := H p = some (.ext (poolP p))
theorem three_line : (3 : Nat) ≤ sizeLine := by decide

section
variable {P : Program} {w : World} {H : Hp} {h : Heap} {p : Addr}
theorem pool_open (ok : HOk P w H h) (hp : Pool H p) : ∃ a b c : Int, HOk P w (upd H p (.lst [.int a, .int b, .int c])) h := by
  obtain ⟨⟨a, b, c, its, n, r, e⟩, _, _⟩ := ok p _ hp
  refine ⟨a, b, c, fun x o hx => ?_⟩
  by_cases hb : x = p
  · subst hb
    rw [upd_same] at hx
    cases hx
    exact ⟨three_line, its, n, r, e⟩
  · rw [upd_ne hb] at hx
    refine (ok x o hx).stay (fun _ _ _ q => q) (fun y q => ?_) (fun y xs q => ?_)
    · rw [upd_ne (ne_of q hp (by intro z; cases z))]
      exact q
    · rw [upd_ne (ne_of q hp (by intro z; cases z))]
      exact q
theorem pool_close {a b c : Int} (ok : HOk P w H h) (hp : H p = some (.lst [.int a, .int b, .int c])) : HOk P w (upd H p (.ext (poolP p))) h := by
  obtain ⟨_, its, n, r, e⟩ := ok p _ hp
  refine fun x o hx => ?_
  by_cases hb : x = p
  · subst hb
    rw [upd_same] at hx
    cases hx
    exact ⟨⟨a, b, c, its, n, r, e⟩, ⟨_, e⟩, fun h1 h2 ⟨a, b, c, its, n, r, e⟩ k => ⟨a, b, c, its, n, r, k _ e⟩⟩
  · rw [upd_ne hb] at hx
    refine (ok x o hx).stay (fun _ _ _ q => q) (fun y q => ?_) (fun y xs q => ?_)
    · rw [upd_ne (ne_of q hp (by intro z; cases z))]
      exact q
    · rw [upd_ne (ne_of q hp (by intro z; cases z))]
      exact q
end

section
variable {P : Program} {w : World} {K : PySem.W.Frag} {mg : Str → Option Value} {base : Heap} {k : Nat} {f : Addr} {fd : FuncData} {ps : List Str} {sp sp1 : Sp}
/-- at the end: a new list of three ints is handed back as a pool -/
theorem fn_newpool (F : FnOk P w K mg base CX0 k f fd ps sp1)
    (h : ∀ vs H Q E, sp vs H Q E → sp1 vs H (fun v H' => ∃ p a b c, v = .ref p ∧ H p = none ∧ H' p = some (.lst [.int a, .int b, .int c]) ∧ Q v (upd H' p (.ext (poolP p)))) E) :
    FnOk P w K mg base CX0 k f fd ps sp := by
  refine ⟨fun vs H Q E q => F.len _ _ _ _ (h _ _ _ _ q), fun A outer s H args us vs Q E hr he hb hv hs => ?_⟩
  refine codeAny_mono (F.run A outer s H args us vs _ E hr he hb hv (h _ _ _ _ hs)) fun r s' q => ?_
  cases r with
  | error e => exact q
  | ok fl =>
    cases fl with
    | next => exact q
    | brk => exact q
    | cont => exact q
    | ret u =>
      obtain ⟨v, H', os, bare, un, hok, r, p, a, b, c, rfl, hn, hp, q⟩ := q
      refine ⟨_, _, os, bare, ?_, pool_close hok hp, r, q⟩
      refine ⟨un.keep, un.slot, fun x o e n hx => ?_, un.there, fun x xs e => ?_, fun x o u e => ?_, fun x t e => ?_⟩
      · by_cases hb : x = p
        · subst hb
          have := un.free x o e n hx
          rw [hp] at this
          cases this
        · rw [upd_ne hb]
          exact un.free x o e n hx
      · rw [upd_ne (ne_of (un.tups x xs e) hp (by intro z; cases z))]
        exact un.tups x xs e
      · rw [upd_ne (ne_of (un.frzs x o u e) hp (by intro z; cases z))]
        exact un.frzs x o u e
      · obtain ⟨m, e2⟩ := un.tbls x t e
        rw [upd_ne (ne_of e2 hp (by intro z; cases z))]
        exact ⟨m, e2⟩
/-- a def that works at a pool's three ints, told as one that leaves the pool a pool -/
theorem fn_pool (F : FnOk P w K mg base CX0 k f fd ps sp1)
    (h : ∀ vs H Q E, sp vs H Q E → vs.length = ps.length ∧ ∃ p, Pool H p ∧ ∀ a b c : Int, sp1 vs (upd H p (.lst [.int a, .int b, .int c])) (fun v H' => ∃ a b c : Int, H' p = some (.lst [.int a, .int b, .int c]) ∧ Q v (upd H' p (.ext (poolP p)))) E) :
    FnOk P w K mg base CX0 k f fd ps sp := by
  refine ⟨fun vs H Q E q => (h _ _ _ _ q).1, fun A outer s H args us vs Q E hr he hb hv hs => ?_⟩
  obtain ⟨_, p, hp, hs⟩ := h _ _ _ _ hs
  obtain ⟨a, b, c, ok⟩ := pool_open he.hok hp
  have e1 : Env0 P w K mg base A outer s (upd H p (.lst [.int a, .int b, .int c])) :=
    ⟨he.frames, he.mod, fun x o e => ⟨(he.bs x o e).1, by rw [upd_ne (ne_of_none hp (he.bs x o e).2).symm]; exact (he.bs x o e).2⟩, he.bsz, he.funs,
      fun x hx => by rw [upd_ne (ne_of_none hp (he.frf x hx)).symm]; exact he.frf x hx, ok, he.bare⟩
  refine codeAny_mono (F.run A outer s _ args us vs _ E hr e1 hb hv (hs a b c)) fun r s' q => ?_
  cases r with
  | error e => exact q
  | ok fl =>
    cases fl with
    | next => exact q
    | brk => exact q
    | cont => exact q
    | ret u =>
      obtain ⟨v, H', os, bare, un, hok, r, a', b', c', hq, q⟩ := q
      refine ⟨_, _, os, bare, ?_, pool_close hok hq, r, q⟩
      have nn : ∀ {x}, H x = none → (upd H p (.lst [.int a, .int b, .int c])) x = none := fun {x} n => by rw [upd_ne (ne_of_none hp n).symm]; exact n
      refine ⟨fun x o e n => un.keep x o e (nn n), fun x o e n => un.slot x o e (nn n), fun x o e n hx => ?_, un.there, fun x xs e => ?_, fun x o u e => ?_, fun x t e => ?_⟩
      · rw [upd_ne (ne_of_none hp n).symm]
        exact un.free x o e (nn n) hx
      · have hb : x ≠ p := ne_of e hp (by intro z; cases z)
        rw [upd_ne hb]
        exact un.tups x xs (by rw [upd_ne hb]; exact e)
      · have hb : x ≠ p := ne_of e hp (by intro z; cases z)
        rw [upd_ne hb]
        exact un.frzs x o u (by rw [upd_ne hb]; exact e)
      · have hb : x ≠ p := ne_of e hp (by intro z; cases z)
        obtain ⟨m, e2⟩ := un.tbls x t (by rw [upd_ne hb]; exact e)
        exact ⟨m, by rw [upd_ne hb]; exact e2⟩
end

/-! ### a def of the text, its name; a def that may be called -/
structure DefAt (K : PySem.W.Frag) (mg : Str → Option Value) (x : Str) (st : Stmt) : Prop where
  ex : ∃ (f : Addr) (fd : FuncData), Fun K x x st f fd ∧ mg x = some (.ref f)
/-- all parameters are written, by position -/
def Bnd (x : Str) (st : Stmt) (ps : List Str) : Prop := ∀ (kV doc pm : Value) (an : Option Addr) (cdv ct : Value) (us : List Value), us.length = ps.length →
  bindArgs (PySem.W.fnOf x x (defArgs st) (defBody st) (defScope st) .none kV doc pm an cdv ct) ⟨us, []⟩ = pure (ps.zip us)
/-- n by position, the others by the names ks -/
def BndK (x : Str) (st : Stmt) (ps : List Str) (n : Nat) (ks : List Str) (g : {α : Type} → List α → List α → List α) : Prop :=
  ∀ (kV doc pm : Value) (an : Option Addr) (cdv ct : Value) (us ws : List Value), us.length = n → ws.length = ks.length →
  bindArgs (PySem.W.fnOf x x (defArgs st) (defBody st) (defScope st) .none kV doc pm an cdv ct) ⟨us, ks.zip ws⟩ = pure (ps.zip (g us ws))
structure Cl (P : Program) (w : World) (K : PySem.W.Frag) (mg : Str → Option Value) (base : Heap) (CX : CXT) (k : Nat) (x : Str) (st : Stmt) (ps : List Str) (sp : Sp) : Prop where
  ex : ∃ (f : Addr) (fd : FuncData), Fun K x x st f fd ∧ FnOk P w K mg base CX k f fd ps sp ∧ mg x = some (.ref f)
section
variable {P : Program} {w : World} {K : PySem.W.Frag} {mg : Str → Option Value} {base : Heap} {k : Nat} {x : Str} {st : Stmt} {ps N : List Str} {sp sp1 : Sp}
theorem cl_of (D : DefAt K mg x st) (S : FnScope N ps (defScope st)) (len : ∀ vs H Q E, sp vs H Q E → vs.length = ps.length)
    (hbody : ∀ (f : Addr) (cdv : Value) (A : Around) (outer : List Env) (s : Shared) (H : Hp) (vs : List V) (Q : VK) (E : XK), Room k (A.deeper (envOfC x (defScope st) s.heap.objs.size f cdv)) → sp vs H Q E →
      ∃ t, PSs (cxOf CX0 P w K mg base N x (defScope st) f cdv A outer s H E).nox (defBody st) t ∧ t { nx := fun _ H' => Q .non H', rt := Q } (start N vs) H) : Cl P w K mg base CX0 (k + 1) x st ps sp := by
  obtain ⟨f, fd, F, m⟩ := D.ex
  exact ⟨f, fd, F, F.ok S len (hbody f), m⟩
theorem Cl.pool (c : Cl P w K mg base CX0 k x st ps sp1)
    (h : ∀ vs H Q E, sp vs H Q E → vs.length = ps.length ∧ ∃ p, Pool H p ∧ ∀ a b c : Int, sp1 vs (upd H p (.lst [.int a, .int b, .int c])) (fun v H' => ∃ a b c : Int, H' p = some (.lst [.int a, .int b, .int c]) ∧ Q v (upd H' p (.ext (poolP p)))) E) :
    Cl P w K mg base CX0 k x st ps sp := by
  obtain ⟨f, fd, F, o, m⟩ := c.ex
  exact ⟨f, fd, F, fn_pool o h, m⟩
theorem Cl.newpool (c : Cl P w K mg base CX0 k x st ps sp1)
    (h : ∀ vs H Q E, sp vs H Q E → sp1 vs H (fun v H' => ∃ p a b c, v = .ref p ∧ H p = none ∧ H' p = some (.lst [.int a, .int b, .int c]) ∧ Q v (upd H' p (.ext (poolP p)))) E) :
    Cl P w K mg base CX0 k x st ps sp := by
  obtain ⟨f, fd, F, o, m⟩ := c.ex
  exact ⟨f, fd, F, fn_newpool o h, m⟩
theorem Cl.imp {CX : CXT} (c : Cl P w K mg base CX k x st ps sp) (h : ∀ vs H Q E, sp1 vs H Q E → sp vs H Q E) : Cl P w K mg base CX k x st ps sp1 := by
  obtain ⟨f, fd, F, o, m⟩ := c.ex
  exact ⟨f, fd, F, o.imp h, m⟩
end
section
variable {X : Cx} {CX : CXT} {k j n : Nat} {x : Str} {st : Stmt} {sp : Sp} {ps ks : List Str} {p pos : Pos} {e : Expr} {es : List Expr} {kws : List Keyword} {t tk : TA} {E : XK}
/-- f(a, ..): all parameters by position -/
theorem pe_cl (c : Cl X.prog X.w X.K X.mg X.base CX k x st ps sp) (b : Bnd x st ps) (hr : Room j X.A) (hk : k ≤ j) (hg : Gl X x) (hx : Passes CX X E) (ha : PA X (e :: es) t)
    (hdb : (x == ("__debug__" : Str)) = false := by decide) (he : starEach (e :: es) X.env = (false, eval e X.env) :: starEach es X.env := by rfl) (hpl : (backTo pos (starEach es X.env)).any (·.1) = false := by rfl) :
    PE X (.Call (.Name x p) (e :: es) [] pos) (tCall sp [] E t) := by
  obtain ⟨f, fd, F, o, m⟩ := c.ex
  exact pe_call o (hr.mono hk) hg m F.kp (F.binds b) .nil hx ha hdb he hpl
theorem kbn_of {K : PySem.W.Frag} {f : Addr} {fd : FuncData} {g : {α : Type} → List α → List α → List α} (F : Fun K x x st f fd) (b : BndK x st ps n ks g)
    (hrel : ∀ {vs zs : List V} {us ws : List Value}, Vals vs us → Vals zs ws → Vals (g vs zs) (g us ws)) : KBn K fd ps n ks (fun us ws => g us ws) (fun vs zs => g vs zs) := by
  obtain ⟨oc, od, kV, doc, pm, an, cdv, ct, osl, rfl, lk, hcd⟩ := F.ex
  exact ⟨fun s us ws _ h1 h2 => .of_eq (b kV doc pm an cdv ct us ws h1 h2), hrel⟩
/-- f(a, .., k = v, ..): all parameters written -/
theorem pe_clk {g : {α : Type} → List α → List α → List α} (c : Cl X.prog X.w X.K X.mg X.base CX k x st ps sp) (b : BndK x st ps n ks g)
    (hrel : ∀ {vs zs : List V} {us ws : List Value}, Vals vs us → Vals zs ws → Vals (g vs zs) (g us ws))
    (hr : Room j X.A) (hk : k ≤ j) (hg : Gl X x) (hx : Passes CX X E) (ha : PA X (e :: es) t) (hkw : PK X kws tk) (hall : (backToKw pos (keywordEach kws X.env)).all (·.1.isSome) = true := by rfl)
    (hks : (backToKw pos (keywordEach kws X.env)).filterMap (·.1) = ks := by rfl) (hdb : (x == ("__debug__" : Str)) = false := by decide) (he : starEach (e :: es) X.env = (false, eval e X.env) :: starEach es X.env := by rfl)
    (hpl : ((backTo pos (starEach (e :: es) X.env)).any (·.1) || (backToKw pos (keywordEach kws X.env)).any (·.1.isNone)) = false := by rfl) :
    PE X (.Call (.Name x p) (e :: es) kws pos) (tCallN n ks.length sp g E t tk) := by
  obtain ⟨f, fd, F, o, m⟩ := c.ex
  exact pe_callN o (hr.mono hk) hg m F.kp (kbn_of F b hrel) hx ha hkw hall hks hdb he hpl
/-- f(k = v, ..): all by name -/
theorem pe_clk0 {g : {α : Type} → List α → List α → List α} (c : Cl X.prog X.w X.K X.mg X.base CX k x st ps sp) (b : BndK x st ps 0 ks g)
    (hrel : ∀ {vs zs : List V} {us ws : List Value}, Vals vs us → Vals zs ws → Vals (g vs zs) (g us ws))
    (hr : Room j X.A) (hk : k ≤ j) (hg : Gl X x) (hx : Passes CX X E) (hkw : PK X kws tk) (hall : (backToKw pos (keywordEach kws X.env)).all (·.1.isSome) = true := by rfl)
    (hks : (backToKw pos (keywordEach kws X.env)).filterMap (·.1) = ks := by rfl) (hdb : (x == ("__debug__" : Str)) = false := by decide)
    (hpl : ((backTo pos (starEach [] X.env)).any (·.1) || (backToKw pos (keywordEach kws X.env)).any (·.1.isNone)) = false := by rfl) :
    PE X (.Call (.Name x p) [] kws pos) (tCallN 0 ks.length sp g E tNil tk) := by
  obtain ⟨f, fd, F, o, m⟩ := c.ex
  refine ⟨fun pins s σ H Q I h => ?_⟩
  refine wpAny_Call_Name_kw (ld_glob I hg m ?_ hdb)
  refine PySem.W.callWith_KW0 (h₀ := X.base) I.ok.mod.kin F.kp hall ?_ hpl
  refine thn (hkw.run pos pins s σ H _ I h) fun ws s2 ⟨zs, H2, I2, rz, l1, l2, q2⟩ => ⟨I2.kIn, ?_⟩
  rw [hks]
  exact run_fnN o (hr.mono hk) (kbn_of F b hrel) hx I2 .nil rz l1 l2 q2
/-- repr of a truth -/
theorem call_repr_bl : CallR X (.builtin "repr") (fun xs H Q => ∃ b, xs = [.bl b] ∧ Q (.str (if b then "True" else "False")) H) := by
  intro pins s σ H xs us Q I r h
  obtain ⟨b, rfl, q⟩ := h
  obtain ⟨u, rfl, rfl⟩ := vals1 r
  exact PySem.P.repr_of_bool ⟨.str _, H, I.tok _, ⟨_, rfl⟩, q⟩
end

section
variable {P : Program} {w : World} {K : PySem.W.Frag} {mg : Str → Option Value} {base : Heap} {k : Nat} {x : Str} {st : Stmt} {ps : List Str} {sp : Sp} {CX : CXT}
theorem defAt_mk {h : Heap} {f : Addr} {oc : Value} {od an : Option Addr} {osl : Array (Option Value)} {kV doc pm cdv ct : Value} (X : K.In h) (G : h.Ns mainGlobals mg) (a : PySem.W.nsIn K mainGlobals x = some (some (.ref f)))
    (l : K.lookup f = some ⟨oc, od, .func (PySem.W.fnOf x x (defArgs st) (defBody st) (defScope st) .none kV doc pm an cdv ct), osl⟩) (c : PySem.W.codeIn K cdv x = true) (kp : PySem.W.keepIn K (.ref f) = true) : DefAt K mg x st :=
  ⟨f, _, fun_mk l c kp, PySem.W.mg_of X G a⟩
/-- a def's object is one -/
theorem Cl.at {f : Addr} {fd : FuncData} (c : Cl P w K mg base CX k x st ps sp) (F : Fun K x x st f fd) (m : mg x = some (.ref f)) : FnOk P w K mg base CX k f fd ps sp := by
  obtain ⟨f', fd', F', o, m'⟩ := c.ex
  rw [m] at m'
  cases m'
  obtain ⟨oc, od, kV, doc, pm, an, cdv, ct, osl, rfl, lk, _⟩ := F.ex
  obtain ⟨oc', od', kV', doc', pm', an', cdv', ct', osl', rfl, lk', _⟩ := F'.ex
  have e := Option.some.inj (lk.symm.trans lk')
  injection e with _ _ e _
  injection e with e
  rw [e]
  exact o
end

/-! ### the law's draws -/
/-- what is handed back is told by P, all that stood stands -/
def Gets (Pv : V → Hp → Prop) (H : Hp) (Q : VK) : Prop := ∀ v H', Ex H H' → Pv v H' → Q v H'
def spCell (K : PySem.W.Frag) : Sp := fun vs H Q _ => ∃ (a : Addr) (ns : List Int) (i : Int), vs = [.ref a, .int i] ∧ SqL K H a (ns.map V.int) ∧ ns.length ≤ 63 ∧ 0 ≤ i ∧ i ≤ 63 ∧ ∀ (v : Int) H', Ex H H' → Q (.int v) H'
def spPool : Sp := fun vs H Q _ => ∃ i : Int, vs = [.int i] ∧ ∀ p H', H p = none → Ex H H' → Pool H' p → Q (.ref p) H'
def spDraw : Sp := fun vs H Q _ => ∃ (p : Addr) (m : Int), vs = [.ref p, .int m] ∧ Pool H p ∧ 0 < m ∧ m < 2 ^ 160 ∧ ∀ (v : Int) H', Ex H H' → 0 ≤ v → v < m → Q (.int v) H'
def spPool1 : Sp := fun vs H Q _ => ∃ i : Int, vs = [.int i] ∧ ∀ p H' (a b c : Int), H p = none → H' p = some (.lst [.int a, .int b, .int c]) → Ex H H' → Q (.ref p) H'
def spDraw1 : Sp := fun vs H Q _ => ∃ (p : Addr) (m a b c : Int), vs = [.ref p, .int m] ∧ H p = some (.lst [.int a, .int b, .int c]) ∧ 0 < m ∧ m < 2 ^ 160 ∧
  ∀ (v : Int) H' (a b c : Int), (∀ x o, x ≠ p → H x = some o → H' x = some o) → H' p = some (.lst [.int a, .int b, .int c]) → 0 ≤ v → v < m → Q (.int v) H'
theorem spPool_of : ∀ vs H Q E, spPool vs H Q E → spPool1 vs H (fun v H' => ∃ p a b c, v = .ref p ∧ H p = none ∧ H' p = some (.lst [.int a, .int b, .int c]) ∧ Q v (upd H' p (.ext (poolP p)))) E := by
  rintro vs H Q E ⟨i, rfl, q⟩
  refine ⟨i, rfl, fun p H' a b c hn hp e => ⟨p, a, b, c, rfl, hn, hp, q p _ hn (fun x o hx => ?_) upd_same⟩⟩
  rw [upd_ne (ne_of_none hx hn)]
  exact e x o hx
theorem spDraw_of : ∀ vs H Q E, spDraw vs H Q E → vs.length = 2 ∧ ∃ p, Pool H p ∧ ∀ a b c : Int, spDraw1 vs (upd H p (.lst [.int a, .int b, .int c])) (fun v H' => ∃ a b c : Int, H' p = some (.lst [.int a, .int b, .int c]) ∧ Q v (upd H' p (.ext (poolP p)))) E := by
  rintro vs H Q E ⟨p, m, rfl, hp, h0, h1, q⟩
  refine ⟨rfl, p, hp, fun a b c => ⟨p, m, a, b, c, rfl, upd_same, h0, h1, fun v H' a' b' c' k hq v0 v1 => ⟨a', b', c', hq, q v _ (fun x o hx => ?_) v0 v1⟩⟩⟩
  by_cases hb : x = p
  · subst hb
    rw [hp] at hx
    cases hx
    exact upd_same
  · rw [upd_ne hb]
    exact k x o hb (by rw [upd_ne hb]; exact hx)
theorem log2_lt {m : Int} (h0 : 0 < m) (h1 : m < 2 ^ 160) : m.natAbs.log2 < 9000 := by
  have e : m.natAbs < 2 ^ 160 := by omega
  have := (Nat.log2_lt (by omega : m.natAbs ≠ 0)).mpr e
  omega
theorem cdivp {i m : Int} (h0 : 0 < m) (h1 : m < 2 ^ 160) : CDivP i m := ⟨h0, PyProof.noPylong_of_log2 (log2_lt h0 h1)⟩
theorem atI_0 {a b c : V} : atI [a, b, c] 0 = some a := rfl
theorem atI_1 {a b c : V} : atI [a, b, c] 1 = some b := rfl
theorem atI_2 {a b c : V} : atI [a, b, c] 2 = some c := rfl
theorem ex_rdL {K : PySem.W.Frag} {H H' : Hp} {a : Addr} {xs : List V} (e : Ex H H') (h : SqL K H a xs) : SqL K H' a xs := ex_l e h
theorem line_ge : (100000 : Nat) ≤ sizeLine := by decide
/-! ### tests with two ways -/
theorem ifD {p A B : Prop} [Decidable p] (h1 : p → A) (h2 : ¬ p → B) : if decide p = true then A else B := by
  by_cases h : p
  · rw [if_pos (decide_eq_true h)]; exact h1 h
  · rw [if_neg (by simpa using h)]; exact h2 h
theorem ifN {p A B : Prop} [Decidable p] (h1 : ¬ p → A) (h2 : p → B) : if (!decide p) = true then A else B := by
  by_cases h : p
  · rw [if_neg (by simpa using h)]; exact h2 h
  · rw [if_pos (by simpa using h)]; exact h1 h
theorem ifB {b : Bool} {A B : Prop} (h1 : b = true → A) (h2 : b = false → B) : if b = true then A else B := by
  cases b with
  | true => exact h1 rfl
  | false => exact h2 rfl
theorem upd_new {H : Hp} {t a : Addr} {o u : HO} (ht : H t = none) (ha : H a = some o) : upd H t u a = some o := by
  rw [upd_ne (ne_of_none ha ht)]
  exact ha
theorem ex_at {H H' : Hp} {a : Addr} {o : HO} (e : Ex H H') (ha : H a = some o) : H' a = some o := e a o ha
/-- all but p stand -/
def But (p : Addr) (H H' : Hp) : Prop := ∀ x o, x ≠ p → H x = some o → H' x = some o
theorem But.refl {p : Addr} {H : Hp} : But p H H := fun _ _ _ h => h
theorem But.new {p t : Addr} {H H' : Hp} {o : HO} (b : But p H H') (ht : H' t = none) : But p H (upd H' t o) := fun x u n h => upd_new ht (b x u n h)
theorem But.mut {p : Addr} {H H' : Hp} {o : HO} (b : But p H H') : But p H (upd H' p o) := fun x u n h => by
  rw [upd_ne n]
  exact b x u n h
theorem cut_int {ns : List Int} {lo hi : Option Int} {i : Nat} {x : V} (h : (cutV (ns.map V.int) lo hi)[i]? = some x) : ∃ n, x = .int n := by
  have hm := List.mem_of_getElem? h
  have hm2 : x ∈ ns.map V.int := by
    unfold cutV at hm
    exact List.mem_of_mem_drop (List.mem_of_mem_take hm)
  obtain ⟨n, _, e⟩ := List.mem_map.mp hm2
  exact ⟨n, e.symm⟩

/-! ### kinds of values -/
inductive Kd (H : Hp) : V → String → Prop
  | non : Kd H .non "NoneType"
  | bl (b : Bool) : Kd H (.bl b) "bool"
  | int (i : Int) : Kd H (.int i) "int"
  | str (x : Str) : Kd H (.str x) "str"
  | lst {a : Addr} {xs : List V} (h : H a = some (.lst xs)) : Kd H (.ref a) "list"
  | tup {a : Addr} {xs : List V} (h : H a = some (.tup xs)) : Kd H (.ref a) "tuple"
  | fz {a : Addr} {o : Obj} {xs : List V} (h : H a = some (.frz o (.tup xs))) : Kd H (.ref a) "tuple"
  | dK {a : Addr} {kvs : List (Key × V)} (h : H a = some (.dK kvs)) : Kd H (.ref a) "dict"
def kinds : List String := ["NoneType", "bool", "int", "str", "list", "tuple", "dict"]
def isK (n c : String) : Bool := n == c || (n == "bool" && c == "int")
theorem Kd.mem {H : Hp} {v : V} {n : String} (k : Kd H v n) : n ∈ kinds := by cases k <;> decide
theorem Kd.ty {K : PySem.W.Frag} {H : Hp} {v : V} {n : String} (k : Kd H v n) : TyX K H v (.type n) := by
  cases k with
  | non => exact .base .non
  | bl b => exact .base (.bl b)
  | int i => exact .base (.int i)
  | str x => exact .base (.str x)
  | lst h => exact .base (.lst h)
  | tup h => exact .base (.tup h)
  | fz h => exact .fTuple h
  | dK h => exact .base (.dK h)
theorem kit_all : ∀ n ∈ kinds, ∀ c ∈ ["int", "bool", "tuple", "str", "list", "dict"], kitB n c = some (isK n c) := by decide +kernel
theorem kit_k {K : PySem.W.Frag} {H : Hp} {v : V} {n c : String} (k : Kd H v n) (hc : c ∈ ["int", "bool", "tuple", "str", "list", "dict"]) : PySem.W.kitOne K (.type n) (.type c) = some (isK n c) := kit_ty (kit_all n k.mem c hc)
theorem Kd.ex {H H' : Hp} {v : V} {n : String} (k : Kd H v n) (e : Ex H H') : Kd H' v n := by
  cases k with
  | non => exact .non
  | bl b => exact .bl b
  | int i => exact .int i
  | str x => exact .str x
  | lst h => exact .lst (e _ _ h)
  | tup h => exact .tup (e _ _ h)
  | fz h => exact .fz (e _ _ h)
  | dK h => exact .dK (e _ _ h)
/-- an integer (no truth) within bounds -/
def inB (lo hi : Int) : V → Bool
  | .int i => decide (lo ≤ i) && decide (i ≤ hi)
  | _ => false
def spInteger : Sp := fun vs H Q _ => ∃ v n, vs = [v] ∧ Kd H v n ∧ Q (.bl (n == "int")) H
def spBetween : Sp := fun vs H Q _ => ∃ v lo hi n, vs = [v, .int lo, .int hi] ∧ Kd H v n ∧ Q (.bl (inB lo hi v)) H
def spNumber : Sp := fun vs H Q _ => ∃ v n, vs = [v] ∧ Kd H v n ∧ Q (.bl (inB (-1000000000000) 1000000000000 v)) H
def rectL : List V → Bool
  | [a, b, c, d] => inB (-1000000000000) 1000000000000 a && inB (-1000000000000) 1000000000000 b && inB 0 1000000000000 c && inB 0 1000000000000 d
  | _ => false
/-- a value that is looked at as a rectangle: no tuple, or a tuple of values of known kinds -/
inductive Th (H : Hp) : V → Bool → Prop
  | other {v : V} {n : String} (k : Kd H v n) (h : n ≠ "tuple") : Th H v false
  | tup {a : Addr} {xs : List V} (h : H a = some (.tup xs)) (ks : ∀ x ∈ xs, ∃ n, Kd H x n) : Th H (.ref a) (rectL xs)
def spRect : Sp := fun vs H Q _ => ∃ v b, vs = [v] ∧ Th H v b ∧ Q (.bl b) H
theorem int_yes {H : Hp} {v : V} {n : String} (k : Kd H v n) (h : isK n "int" = true) : (n == "int") = !isK n "bool" := by
  have hm := k.mem
  exact (by decide : ∀ n ∈ kinds, isK n "int" = true → (n == "int") = !isK n "bool") n hm h
theorem int_no {n : String} (h : isK n "int" = false) : (n == "int") = false := by
  unfold isK at h
  cases e : n == "int" with
  | true => rw [e] at h; cases h
  | false => rfl
theorem Kd.of_int {H : Hp} {v : V} {n : String} (k : Kd H v n) (h : (n == "int") = true) : ∃ i, v = .int i := by
  cases k <;> first | exact ⟨_, rfl⟩ | exact absurd h (by decide)
theorem inB_no {H : Hp} {lo hi : Int} {v : V} {n : String} (k : Kd H v n) (h : (n == "int") = false) : inB lo hi v = false := by
  cases k <;> first | rfl | exact absurd h (by decide)
theorem isK_ne {n c : String} (h : n ≠ c) (hb : c ≠ "int") : isK n c = false := by
  unfold isK
  rw [beq_eq_false_iff_ne.mpr h, beq_eq_false_iff_ne.mpr hb]
  cases n == "bool" <;> rfl
theorem rectL_len {xs : List V} (h : xs.length ≠ 4) : rectL xs = false := by
  unfold rectL
  split
  · exact absurd rfl h
  · rfl
theorem four {xs : List V} (h : xs.length = 4) : ∃ a b c d, xs = [a, b, c, d] := match xs, h with
  | [a, b, c, d], _ => ⟨a, b, c, d, rfl⟩
theorem lenN {n m : Nat} : V.int (n : Int) = V.int (m : Int) ↔ n = m := by
  constructor
  · intro h
    injection h with h
    exact Int.ofNat_inj.mp h
  · intro h; rw [h]
theorem ifNt {b : Bool} {A B : Prop} (h1 : b = false → A) (h2 : b = true → B) : if (!b) = true then A else B := by
  cases b with
  | true => exact h2 rfl
  | false => exact h1 rfl

theorem sqlK {K K' : PySem.W.Frag} {H : Hp} {a : Addr} {xs : List V} (h : SqL K H a xs) (e : K' = K) : SqL K' H a xs := e ▸ h
theorem sqtK {K K' : PySem.W.Frag} {H : Hp} {a : Addr} {xs : List V} (h : SqT K H a xs) (e : K' = K) : SqT K' H a xs := e ▸ h
/-! ### list comprehensions, told item by item -/
/-- all but lists stand -/
def ExT (H H' : Hp) : Prop := ∀ a o, (∀ xs, o ≠ HO.lst xs) → H a = some o → H' a = some o
theorem Ex.exT {H H' : Hp} (e : Ex H H') : ExT H H' := fun a o _ h => e a o h
theorem ExT.wr {H : Hp} {D : Addr} {xs : List V} {o : HO} (h : H D = some (.lst xs)) : ExT H (upd H D o) := fun a u n ha => by
  rw [upd_ne (ne_of ha h (n xs))]
  exact ha
theorem ExT.trans {H H1 H2 : Hp} (a : ExT H H1) (b : ExT H1 H2) : ExT H H2 := fun x o n h => b x o n (a x o n h)
/-- what a turn makes: some item or none -/
abbrev PeT := Nat → Option V → Hp → Prop
def Mono (Pe : PeT) : Prop := ∀ i o H H', ExT H H' → Pe i o H → Pe i o H'
structure LcI (H1 : Hp) (D : Addr) (Pe : PeT) (i : Nat) (H : Hp) : Prop where
  new : H1 D = none
  ex : Ex H1 H
  its : ∃ os : List (Option V), os.length = i ∧ H D = some (.lst (os.filterMap id)) ∧ ∀ m o, os[m]? = some o → Pe m o H
section
variable {H1 H H4 : Hp} {D : Addr} {Pe : PeT} {i n : Nat} {y : V}
theorem LcI.start (h : H1 D = none) : LcI H1 D Pe 0 (upd H1 D (.lst [])) := ⟨h, Ex.new h, [], rfl, upd_same, fun m o e => by simp at e⟩
theorem LcI.more (I : LcI H1 D Pe i H) (mono : Mono Pe) (hi : i < 50000) (e : Ex H H4) (p : Pe i (some y) H4) :
    ∃ acc, H4 D = some (.lst acc) ∧ acc.length < sizeLine ∧ LcI H1 D Pe (i + 1) (upd H4 D (.lst (acc ++ [y]))) := by
  obtain ⟨hn, e1, os, hl, hD, hp⟩ := I
  have hD4 := e _ _ hD
  have hT : ExT H4 (upd H4 D (.lst (os.filterMap id ++ [y]))) := ExT.wr hD4
  refine ⟨_, hD4, ?_, hn, Ex.mut (e1.trans e) hn, os ++ [some y], ?_, ?_, fun m o hm => ?_⟩
  · have := List.length_filterMap_le id os
    exact Nat.lt_of_lt_of_le (by omega) line_ge
  · rw [List.length_append, hl]; rfl
  · rw [upd_same, List.filterMap_append]; rfl
  · by_cases hb : m < os.length
    · rw [List.getElem?_append_left hb] at hm
      exact mono _ _ _ _ ((Ex.exT e).trans hT) (hp m o hm)
    · rw [List.getElem?_append_right (Nat.le_of_not_lt hb)] at hm
      have h0 : m - os.length = 0 := by
        cases hz : m - os.length with
        | zero => rfl
        | succ k => rw [hz] at hm; simp at hm
      rw [h0] at hm
      have e2 : o = some y := (Option.some.inj hm).symm
      have e3 : m = i := by omega
      subst e2 e3
      exact mono _ _ _ _ hT p
theorem LcI.less (I : LcI H1 D Pe i H) (mono : Mono Pe) (e : Ex H H4) (p : Pe i none H4) : LcI H1 D Pe (i + 1) H4 := by
  obtain ⟨hn, e1, os, hl, hD, hp⟩ := I
  refine ⟨hn, e1.trans e, os ++ [none], ?_, ?_, fun m o hm => ?_⟩
  · rw [List.length_append, hl]; rfl
  · rw [List.filterMap_append, e _ _ hD]
    show _ = some (HO.lst (os.filterMap id ++ []))
    rw [List.append_nil]
  · by_cases hb : m < os.length
    · rw [List.getElem?_append_left hb] at hm
      exact mono _ _ _ _ (Ex.exT e) (hp m o hm)
    · rw [List.getElem?_append_right (Nat.le_of_not_lt hb)] at hm
      have h0 : m - os.length = 0 := by
        cases hz : m - os.length with
        | zero => rfl
        | succ k => rw [hz] at hm; simp at hm
      rw [h0] at hm
      have e2 : o = none := (Option.some.inj hm).symm
      have e3 : m = i := by omega
      subst e2 e3
      exact p
/-- a turn: from item x -/
def LcTurn (Pe : PeT) (H1 : Hp) (g : TG) (tt : TT) (te : TE) (vs : List Nat) (σ : L2.St) (i : Nat) (x : V) : Prop := ∀ H, Ex H1 H → ∀ (Q1 : VK) (Q2 : Hp → Prop), (∀ y H4, Ex H H4 → Pe i (some y) H4 → Q1 y H4) → (∀ H4, Ex H H4 → Pe i none H4 → Q2 H4) →
  g x (wipe σ vs) H fun σ2 H2 => wipe σ2 vs = wipe σ vs ∧ tt σ2 H2 fun b H3 => if b = true then te σ2 H3 Q1 else Q2 H3
variable {g : TG} {tt : TT} {te : TE} {vs : List Nat} {σ : L2.St} {Qd : Hp → Prop} {K : PySem.W.Frag} {a : Addr} {xs : List V}
theorem lcR (Pe : PeT) (mono : Mono Pe) (hD : H1 D = none) (hn : n ≤ 50000) (hs : ∀ i, i < n → LcTurn Pe H1 g tt te vs σ i (.int ((0 : Int) + i)))
    (hd : ∀ H' (os : List (Option V)), Ex H1 H' → os.length = n → H' D = some (.lst (os.filterMap id)) → (∀ i o, os[i]? = some o → Pe i o H') → Qd H') :
    ∃ W : Nat → Nat → Hp → Prop, (∃ m, W 0 m (upd H1 D (.lst []))) ∧ ∀ i m H, W i m H →
      ((Itr 0 n).stop i H ∧ Qd H) ∨ ((Itr 0 n).go i H ∧ ∃ Nx : Hp → Prop, (∀ H', Nx H' → ∃ m', m' < m ∧ W (i + 1) m' H') ∧ ∀ x H', (Itr 0 n).yld i H x H' → g x (wipe σ vs) H' fun σ2 H2 => wipe σ2 vs = wipe σ vs ∧ tt σ2 H2 fun b H3 =>
        if b = true then te σ2 H3 fun y H4 => ∃ acc, H4 D = some (.lst acc) ∧ acc.length < sizeLine ∧ Nx (upd H4 D (.lst (acc ++ [y]))) else Nx H3) :=
  lc_range (LcI H1 D Pe) (LcI.start hD) (fun i H hi I => hs i hi H I.ex _ _ (fun y H4 e p => I.more mono (by omega) e p) (fun H4 e p => I.less mono e p))
    (fun H I => by obtain ⟨_, e, os, hl, h, p⟩ := I; exact hd H os e hl h p)
theorem lcL (Pe : PeT) (mono : Mono Pe) (hD : H1 D = none) (hx : SqL K H1 a xs) (hn : xs.length ≤ 50000) (hs : ∀ i x, xs[i]? = some x → LcTurn Pe H1 g tt te vs σ i x)
    (hd : ∀ H' (os : List (Option V)), Ex H1 H' → os.length = xs.length → H' D = some (.lst (os.filterMap id)) → (∀ i o, os[i]? = some o → Pe i o H') → Qd H') :
    ∃ W : Nat → Nat → Hp → Prop, (∃ m, W 0 m (upd H1 D (.lst []))) ∧ ∀ i m H, W i m H →
      ((Itl K a).stop i H ∧ Qd H) ∨ ((Itl K a).go i H ∧ ∃ Nx : Hp → Prop, (∀ H', Nx H' → ∃ m', m' < m ∧ W (i + 1) m' H') ∧ ∀ x H', (Itl K a).yld i H x H' → g x (wipe σ vs) H' fun σ2 H2 => wipe σ2 vs = wipe σ vs ∧ tt σ2 H2 fun b H3 =>
        if b = true then te σ2 H3 fun y H4 => ∃ acc, H4 D = some (.lst acc) ∧ acc.length < sizeLine ∧ Nx (upd H4 D (.lst (acc ++ [y]))) else Nx H3) :=
  lc_list (LcI H1 D Pe) (LcI.start hD) (fun i H _ I => ex_l I.ex hx) (fun i x H hi I => hs i x hi H I.ex _ _ (fun y H4 e p => I.more mono (by have := (List.getElem?_eq_some_iff.mp hi).1; omega) e p) (fun H4 e p => I.less mono e p))
    (fun H I => by obtain ⟨_, e, os, hl, h, p⟩ := I; exact hd H os e hl h p)
theorem lcT (Pe : PeT) (mono : Mono Pe) (hD : H1 D = none) (hx : SqT K H1 a xs) (hn : xs.length ≤ 50000) (hs : ∀ i x, xs[i]? = some x → LcTurn Pe H1 g tt te vs σ i x)
    (hd : ∀ H' (os : List (Option V)), Ex H1 H' → os.length = xs.length → H' D = some (.lst (os.filterMap id)) → (∀ i o, os[i]? = some o → Pe i o H') → Qd H') :
    ∃ W : Nat → Nat → Hp → Prop, (∃ m, W 0 m (upd H1 D (.lst []))) ∧ ∀ i m H, W i m H →
      ((Itt K a).stop i H ∧ Qd H) ∨ ((Itt K a).go i H ∧ ∃ Nx : Hp → Prop, (∀ H', Nx H' → ∃ m', m' < m ∧ W (i + 1) m' H') ∧ ∀ x H', (Itt K a).yld i H x H' → g x (wipe σ vs) H' fun σ2 H2 => wipe σ2 vs = wipe σ vs ∧ tt σ2 H2 fun b H3 =>
        if b = true then te σ2 H3 fun y H4 => ∃ acc, H4 D = some (.lst acc) ∧ acc.length < sizeLine ∧ Nx (upd H4 D (.lst (acc ++ [y]))) else Nx H3) :=
  lc_tup (LcI H1 D Pe) (LcI.start hD) (fun i H _ I => ex_t I.ex hx) (fun i x H hi I => hs i x hi H I.ex _ _ (fun y H4 e p => I.more mono (by have := (List.getElem?_eq_some_iff.mp hi).1; omega) e p) (fun H4 e p => I.less mono e p))
    (fun H I => by obtain ⟨_, e, os, hl, h, p⟩ := I; exact hd H os e hl h p)
end
/-- every turn makes an item: Pf tells it -/
def All (Pf : Nat → V → Hp → Prop) : PeT := fun i o H => ∃ y, o = some y ∧ Pf i y H
theorem All.list {Pf : Nat → V → Hp → Prop} {H : Hp} : ∀ {os : List (Option V)} {k : Nat}, (∀ i o, os[i]? = some o → All Pf (k + i) o H) → ∃ ys : List V, os.filterMap id = ys ∧ ys.length = os.length ∧ ∀ i y, ys[i]? = some y → Pf (k + i) y H
  | [], _, _ => ⟨[], rfl, rfl, fun i y e => by simp at e⟩
  | o :: os, k, h => by
    obtain ⟨y, rfl, p⟩ := h 0 o rfl
    obtain ⟨ys, e1, e2, e3⟩ := All.list (os := os) (k := k + 1) (fun i o e => by
      have := h (i + 1) o e
      rwa [show k + (i + 1) = k + 1 + i by omega] at this)
    refine ⟨y :: ys, by rw [← e1]; rfl, by rw [List.length_cons, List.length_cons, e2], fun i z e => ?_⟩
    cases i with
    | zero =>
      have : y = z := Option.some.inj e
      subst this
      exact p
    | succ i =>
      have := e3 i z e
      rwa [show k + (i + 1) = k + 1 + i by omega]
theorem All.end {Pf : Nat → V → Hp → Prop} {H : Hp} {os : List (Option V)} (h : ∀ i o, os[i]? = some o → All Pf i o H) : ∃ ys : List V, os.filterMap id = ys ∧ ys.length = os.length ∧ ∀ i y, ys[i]? = some y → Pf i y H := by
  obtain ⟨ys, a, b, c⟩ := All.list (k := 0) (fun i o e => by rw [Nat.zero_add]; exact h i o e)
  exact ⟨ys, a, b, fun i y e => by have := c i y e; rwa [Nat.zero_add] at this⟩
theorem all_mono {Pf : Nat → V → Hp → Prop} (h : ∀ i v H H', ExT H H' → Pf i v H → Pf i v H') : Mono (All Pf) := fun i o H H' e ⟨y, a, b⟩ => ⟨y, a, h i y H H' e b⟩
theorem Kd.up {H H' : Hp} {v : V} {n : String} (e : Ex H H') (k : Kd H v n) : Kd H' v n := k.ex e
theorem Kd.new {H : Hp} {t : Addr} {o : HO} {v : V} {n : String} (h : H t = none) (k : Kd H v n) : Kd (upd H t o) v n := k.ex (Ex.new h)
theorem atI_in {xs : List V} {d : Int} (h0 : 0 ≤ d) (h1 : d < xs.length) : ∃ v, v ∈ xs ∧ atI xs d = some v := by
  obtain ⟨j, rfl⟩ := Int.eq_ofNat_of_zero_le h0
  have hj : j < xs.length := by omega
  exact ⟨xs[j], List.getElem_mem hj, atI_nat (List.getElem?_eq_getElem hj)⟩
theorem Th.up {H H' : Hp} {v : V} {b : Bool} (e : Ex H H') (k : Th H v b) : Th H' v b := by
  cases k with
  | other k h => exact .other (k.ex e) h
  | tup h ks => exact .tup (e _ _ h) fun x hx => let ⟨n, k⟩ := ks x hx; ⟨n, k.ex e⟩
theorem Th.kd {H : Hp} {v : V} {b : Bool} (k : Th H v b) : ∃ n, Kd H v n := by
  cases k with
  | other k h => exact ⟨_, k⟩
  | tup h ks => exact ⟨_, .tup h⟩
theorem Pool.up {H H' : Hp} {p : Addr} (e : Ex H H') (h : Pool H p) : Pool H' p := e _ _ h
theorem Pool.new {H : Hp} {t p : Addr} {o : HO} (ht : H t = none) (h : Pool H p) : Pool (upd H t o) p := upd_new ht h
theorem Th.new {H : Hp} {t : Addr} {o : HO} {v : V} {b : Bool} (ht : H t = none) (k : Th H v b) : Th (upd H t o) v b := k.up (Ex.new ht)
theorem ix_in {K : PySem.W.Frag} {H : Hp} {p : Addr} {xs : List V} {d : Int} {Q : VK} (h : SqL K H p xs ∨ SqT K H p xs) (h0 : 0 ≤ d) (h1 : d < xs.length) (q : ∀ v, v ∈ xs → Q v H) : rIx K (.ref p) (.int d) H Q := by
  obtain ⟨v, hv, ha⟩ := atI_in h0 h1
  rcases h with h | h
  · exact .inl ⟨p, xs, d, v, rfl, rfl, h, ha, q v hv⟩
  · exact .inr (.inl ⟨p, xs, d, v, rfl, rfl, h, ha, q v hv⟩)
/-- a heap without one object -/
def Minus (H : Hp) (p : Addr) : Hp := fun a => if a = p then none else H a
theorem minus_at {H : Hp} {p a : Addr} {o : HO} (n : a ≠ p) (h : H a = some o) : Minus H p a = some o := by
  unfold Minus
  rw [if_neg n]
  exact h
theorem minus_ex {H H' : Hp} {p : Addr} (b : But p H H') : Ex (Minus H p) H' := fun a o h => by
  unfold Minus at h
  by_cases n : a = p
  · rw [if_pos n] at h; cases h
  · rw [if_neg n] at h; exact b a o n h
theorem minus_lo {H : Hp} {p : Addr} : Ex (Minus H p) H := minus_ex But.refl
theorem ne_fresh {H : Hp} {a p : Addr} {o : HO} (h : H a = none) (hp : H p = some o) : a ≠ p := (ne_of_none hp h).symm
theorem But.ex {p : Addr} {H H0 H' : Hp} (e : Ex H H0) (h : H p = none) (b : But p H0 H') : Ex H H' := fun a o ha => b a o (ne_of_none ha h) (e a o ha)
theorem But.up {p : Addr} {H H1 H2 : Hp} (b : But p H H1) (e : Ex H1 H2) : But p H H2 := fun a o n h => e a o (b a o n h)
theorem mem_cut {xs : List V} {lo hi : Option Int} {x : V} (h : x ∈ cutV xs lo hi) : x ∈ xs := by
  unfold cutV at h
  exact List.mem_of_mem_drop (List.mem_of_mem_take h)
theorem mem_set {xs : List V} {j : Nat} {x y : V} (h : x ∈ xs.set j y) : x ∈ xs ∨ x = y := List.mem_or_eq_of_mem_set h
theorem ixN_in {n : Nat} {d : Int} (h0 : 0 ≤ d) (h1 : d < n) : ixN n d = some d.toNat := by
  unfold ixN
  rw [if_pos h0, if_pos h1]
/-- o[d] = v in bounds -/
theorem set_in {H : Hp} {p : Addr} {xs : List V} {d : Int} {v : V} {Q : Hp → Prop} (h : H p = some (.lst xs)) (h0 : 0 ≤ d) (h1 : d < xs.length) (q : Q (upd H p (.lst (xs.set d.toNat v)))) : rSetL (.ref p) (.int d) v H Q :=
  ⟨p, xs, d, d.toNat, rfl, rfl, h, ixN_in h0 h1, q⟩
theorem newEx {H H' : Hp} {t : Addr} {o : HO} (h : upd H t o = H') (n : H t = none) : Ex H H' := by rw [← h]; exact Ex.new n
theorem newAt {H H' : Hp} {t : Addr} {o : HO} (h : upd H t o = H') : H' t = some o := by rw [← h]; exact upd_same
theorem mutBut {H H' : Hp} {t : Addr} {o : HO} (h : upd H t o = H') : But t H H' := by rw [← h]; exact But.mut But.refl
theorem but_of {p : Addr} {H H' : Hp} (e : Ex H H') : But p H H' := fun x o _ h => e x o h
theorem law_fd {K : PySem.W.Frag} {mg : Str → Option Value} {x p : Str} {st : Stmt} {fa : Addr} (D : DefAt K mg x st) (b : Bnd x st [p]) (hfa : mg x = some (.ref fa)) : ∃ fd, Fun K x x st fa fd ∧ ∀ (s : Shared) (u : Value), BindsTo s fd ⟨[u], []⟩ [(p, u)] := by
  obtain ⟨f, fd, F, m⟩ := D.ex
  rw [m] at hfa
  cases hfa
  refine ⟨fd, F, ?_⟩
  obtain ⟨oc, od, kV, doc, pm, an, cdv, ct, osl, rfl, lk, hcd⟩ := F.ex
  exact fun s u => .of_eq (b kV doc pm an cdv ct [u] rfl)
/-- the law's promise -/
def spLaw (K : PySem.W.Frag) : Sp := fun vs H Q _ => ∃ (a : Addr) (ns : List Int), vs = [.ref a] ∧ SqL K H a (ns.map V.int) ∧ ns.length ≤ 63 ∧ ∀ H', Q (.bl true) H'
/-- a check of the law: whatever the pool gives, True -/
def spCheck : Sp := fun vs H Q _ => ∃ p, vs = [.ref p] ∧ Pool H p ∧ ∀ H', Ex H H' → Q (.bl true) H'
theorem all_true {ys : List V} (h : ∀ y ∈ ys, y = V.bl true) : ∃ bs : List Bool, ys = bs.map V.bl ∧ bs.all id = true := by
  refine ⟨List.replicate ys.length true, ?_, by simp⟩
  rw [List.map_replicate]
  exact List.eq_replicate_iff.mpr ⟨rfl, h⟩
theorem rep2 {H : Hp} {l : Addr} {xs : List V} {Q : VK} (h : H l = some (.lst xs)) (hl : xs.length ≤ 1000) (q : ∀ p, H p = none → Q (.ref p) (upd H p (.lst (xs ++ xs)))) : rRep (.ref l) (.int 2) H Q := by
  refine ⟨l, 2, xs, rfl, rfl, h, by decide, by decide, ?_, fun p n => ?_⟩
  · exact Nat.le_trans (by show xs.length * 2 ≤ 100000; omega) line_ge
  · have e : (List.replicate (2 : Int).toNat xs).flatten = xs ++ xs := by
      show xs ++ (xs ++ []) = _
      rw [List.append_nil]
    first
      | (rw [e]; exact q p n)
      | exact q p n
theorem const_mk {K : PySem.W.Frag} {h : Heap} {mg : Str → Option Value} {x : Str} {u : Value} {v : V} (X : K.In h) (G : h.Ns mainGlobals mg) (a : PySem.W.nsIn K mainGlobals x = some (some u)) (r : RelV v u) : ∃ u, mg x = some u ∧ RelV v u := ⟨u, PySem.W.mg_of X G a, r⟩
/-- a statement that is never reached -/
theorem ps_dead {X : Cx} {st : Stmt} : PS X st (fun _ _ _ => False) := ⟨fun _ _ _ _ _ _ h => h.elim⟩
theorem ixT_at {K : PySem.W.Frag} {H : Hp} {p : Addr} {xs : List V} {i : Int} {j : Nat} {v : V} {Q : VK} (h : SqT K H p xs) (e : i = (j : Int)) (hx : xs[j]? = some v) (q : Q v H) : rIx K (.ref p) (.int i) H Q :=
  .inr (.inl ⟨p, xs, i, v, rfl, rfl, h, by rw [e]; exact atI_nat hx, q⟩)
theorem ixL_at {K : PySem.W.Frag} {H : Hp} {p : Addr} {xs : List V} {i : Int} {j : Nat} {v : V} {Q : VK} (h : SqL K H p xs) (e : i = (j : Int)) (hx : xs[j]? = some v) (q : Q v H) : rIx K (.ref p) (.int i) H Q :=
  .inl ⟨p, xs, i, v, rfl, rfl, h, by rw [e]; exact atI_nat hx, q⟩
end Lw
/-! Tuples that know their object; dict(tuple of pairs); sorted(d.items()) of ints. -/
namespace Lw
open PySem PySem.Spec PyProof.Rows L2 Evl

/-- a tuple whose object has no dict of its own -/
def Tu (H : Hp) (p : Addr) (xs : List V) : Prop := ∃ o : Obj, o.dict = none ∧ H p = some (.frz o (.tup xs))
abbrev RowAt (H : Hp) (q : Addr) (p : Int × Int) : Prop := H q = some (.tup [.int p.1, .int p.2])
abbrev Rows (H : Hp) : List Addr → List (Int × Int) → Prop := Paired (RowAt H)
def kvI (ps : List (Int × Int)) : List (Key × V) := ps.map fun p => (.inl p.1, .int p.2)
theorem Tu.up {H H' : Hp} {p : Addr} {xs : List V} (e : Ex H H') (t : Tu H p xs) : Tu H' p xs := let ⟨o, a, b⟩ := t; ⟨o, a, e _ _ b⟩
theorem RowAt.up {H H' : Hp} {q : Addr} {p : Int × Int} (h : RowAt H q p) (e : Ex H H') : RowAt H' q p := e _ _ h
theorem Tu.sq {K : PySem.W.Frag} {H : Hp} {p : Addr} {xs : List V} (t : Tu H p xs) : SqT K H p xs := let ⟨o, _, b⟩ := t; .inl (.inr ⟨o, b⟩)
theorem Rows.up {H H' : Hp} (e : Ex H H') : ∀ {qs : List Addr} {ps : List (Int × Int)}, Rows H qs ps → Rows H' qs ps
  | _, _, .nil => .nil
  | _, _, .cons h t => .cons (e _ _ h) (Rows.up e t)
theorem u1 {a b : Nat} (h : a + 64 < b) : a + 1 < b := by omega
section
variable {X : Cx} {es : List Expr} {pos : Pos} {t : TA}
/-- tuple(xs), xs a list -/
theorem cr_tupF : CallR X (.type "tuple") (fun as H Q => ∃ p ys, as = [.ref p] ∧ SqL X.K H p ys ∧ ∀ l o, H l = none → o.dict = none → Q (.ref l) (upd H l (.frz o (.tup ys)))) := by
  intro pins s σ H as us Q I r hq
  obtain ⟨p, ys, rfl, hl, q⟩ := hq
  obtain rfl := Vals.ref1 r
  obtain ⟨its, rv, pl, hz⟩ := I.list hl
  refine call_tuple_list pl.isList (fun g kp => ?_) (by rw [List.size_toArray, ← rv.length]; exact hz)
  have J : Inv X pins σ H { s with heap := g } := I.kept (t' := s.toks) kp
  have hn := J.hok.fresh (Nat.le_refl _)
  refine ⟨.ref _, _, J.laid (t' := s.toks) (fun b o e => Heap.get?_push_of_some _ e) (Nat.le_refl _) (o := .frz { cls := .type "tuple", data := .seq its.toArray } (.tup ys)) ⟨Heap.get?_push_size _ rfl, hz, its, rv, IsTup.new _ _⟩, rfl, q _ _ hn rfl⟩
def tTupF (t : TA) : TE := fun σ H Q => t σ H fun xs H1 => xs.length ≤ sizeLine ∧ ∀ p o, H1 p = none → o.dict = none → Q (.ref p) (upd H1 p (.frz o (.tup xs)))
/-- (a, ..) -/
theorem pe_tupF {x1} (h : PA X es t) : PE X (.Tuple es x1 pos) (tTupF t) := by
  refine ⟨fun pins s σ H Q I hq => ?_⟩
  refine wpAny_Tuple_spliced (thn (h.run pos pins s σ H _ I hq) fun us s1 hh => ?_)
  obtain ⟨xs, H1, J, r, z, q⟩ := hh
  refine ⟨by rw [← r.length]; exact z, ?_⟩
  have hn := J.hok.fresh (Nat.le_refl _)
  refine ⟨.ref _, _, J.laid (t' := s1.toks) (fun b u e => Heap.get?_push_of_some _ e) (Nat.le_refl _) (o := .frz { cls := .type "tuple", data := .seq us.toArray } (.tup xs)) ⟨Heap.get?_push_size _ rfl, z, us, r, ⟨_, Heap.get?_push_size _ rfl, rfl, _, rfl⟩⟩, rfl, q _ _ hn rfl⟩
theorem rows_of {pins : List (Addr × Obj)} {σ : L2.St} {H : Hp} {s : Shared} (I : Inv X pins σ H s) : ∀ {qs : List Addr} {ps : List (Int × Int)}, Rows H qs ps →
    ∃ (vps : List (Value × Value)) (prs : List (Key × Value)), Paired (fun (q : Addr) (kv : Value × Value) => IsTup s.heap q #[kv.1, kv.2]) qs vps ∧ KV (kvI ps) prs ∧
      Paired (fun (pr : Key × Value) (kv : Value × Value) => keyIs pr.1 kv.1 = true ∧ pr.2 = kv.2) prs vps
  | _, _, .nil => ⟨[], [], .nil, .nil, .nil⟩
  | _, _, .cons (a := q) (b := p) h t => by
    obtain ⟨vps, prs, a, b, c⟩ := rows_of I t
    obtain ⟨its, rv, ht, _⟩ := I.tuple (SqT.of h)
    obtain ⟨u, y, rfl, ru, ry⟩ := vals2 rv
    obtain ⟨k, rfl⟩ := ru
    exact ⟨(.int p.1 k, y) :: vps, (.inl p.1, y) :: prs, .cons ht a, .cons ⟨rfl, ry⟩ b, .cons ⟨keyIs_int _ _, rfl⟩ c⟩
/-- dict(t), t a tuple of pairs of ints -/
theorem cr_dictT (hc : X.calm = true) : CallR X (.type "dict") (fun as H Q => ∃ a qs ps, as = [.ref a] ∧ Tu H a (qs.map V.ref) ∧ Rows H qs ps ∧ ∀ l, H l = none → Q (.ref l) (upd H l (.dK (mergeK [] (kvI ps))))) := by
  intro pins s σ H as us Q I r hq
  obtain ⟨a, qs, ps, rfl, ⟨o, hd, ho⟩, hr, q⟩ := hq
  obtain rfl := Vals.ref1 r
  obtain ⟨go, hz, its, rv, o', ho', hcl, n, hdat⟩ := I.hok a _ ho
  obtain rfl : o = o' := Option.some.inj (go.symm.trans ho')
  obtain rfl := refs_at rv
  rw [List.length_map] at hz
  obtain ⟨vps, prs, h1, h2, h3⟩ := rows_of I hr
  have l1 : qs.length = vps.length := Paired.length h1
  have l3 : prs.length = vps.length := Paired.length h3
  have key : ∀ j k v, vps[j]? = some (k, v) → ∃ b, qs[j]? = some b ∧ IsTup s.heap b #[k, v] := fun j k v e => by
    obtain ⟨b, hb, ht⟩ := L2.DX.pget h1 e
    exact ⟨b, hb, ht⟩
  refine PySem.call_dict_pairs (knd := mixKind X.prog X.w) (kvs := prs) (PairArg.tuple a (qs.map Value.ref).toArray (fun j => qs.getD j 0) vps) (I.ok.hd hc) ⟨⟨o, n, go, hcl, hd, hdat⟩, ?_, fun j k v e => ?_⟩ ⟨l3, fun i k v e => ?_⟩ (by omega) fun h' tk dd hk => ?_
  · rw [List.size_toArray, List.length_map]; exact l1
  · obtain ⟨b, hb, ht⟩ := key j k v e
    have eb : qs.getD j 0 = b := by rw [List.getD_eq_getElem?_getD, hb]; rfl
    refine ⟨?_, .inl ?_⟩
    · show (qs.map Value.ref).toArray[j]? = some (.ref (qs.getD j 0))
      rw [eb, List.getElem?_toArray, List.getElem?_map, hb]; rfl
    · show s.heap.IsTuple (qs.getD j 0) #[k, v]
      rw [eb]; exact ht
  · obtain ⟨⟨k', v'⟩, hp, hk, hv⟩ := L2.DX.pget h3 e
    exact ⟨k', by rw [hp, show v' = v from hv], hk⟩
  · have hm : (s.heap.objs.size == sysModules) = false := beq_eq_false_iff_ne.mpr (Nat.ne_of_gt I.big)
    have hlen : (mergeK [] (kvI ps)).length ≤ sizeLine := by
      refine Nat.le_trans (length_mergeK _ []) ?_
      rw [List.length_nil, Nat.zero_add, h2.length]
      omega
    exact ⟨.ref _, _, I.laid (t' := tk) (fun b u e => hk b u (fun z => nomatch z) e) (Nat.le_refl _) (o := .dK (mergeK [] (kvI ps))) ⟨hlen, hm, merged [] prs, KV.merge h2 .nil, dd⟩, rfl, q _ (I.hok.fresh (Nat.le_refl _))⟩
/-- the same context, one call deeper -/
theorem inA {pins : List (Addr × Obj)} {σ : L2.St} {H : Hp} {s : Shared} (I : Inv X pins σ H s) : Inv { X with A := X.A.in1 } pins σ H s := by
  obtain ⟨⟨a1, a2, a3, a4, a5, a6, a7, a8, a9, b1, b2, b3, b4, b5, b6, b7, b8, b9⟩, c1, c2, c3, c4, c5, c6, c7, c8, c9, d1⟩ := I
  exact ⟨⟨a1, a2, a3, a4, a5, a6, a7, a8, fun c => by show X.A.in1.handled = none; simpa using a9 c, b1, b2, b3, b4, b5, b6, b7, b8, b9⟩, c1, c2, c3, c4, c5, c6, c7, c8, c9, d1⟩
theorem outA {pins : List (Addr × Obj)} {σ : L2.St} {H : Hp} {s : Shared} (ok : X.Ok) (I : Inv { X with A := X.A.in1 } pins σ H s) : Inv X pins σ H s := by
  obtain ⟨_, c1, c2, c3, c4, c5, c6, c7, c8, c9, d1⟩ := I
  exact ⟨ok, c1, c2, c3, c4, c5, c6, c7, c8, c9, d1⟩
/-- d.items() -/
theorem mt_itemsK : MtR X "dict.items" (fun x as H Q => ∃ a kvs, x = .ref a ∧ as = [] ∧ H a = some (.dK kvs) ∧ ∀ p, H p = none → Q (.ref p) (upd H p (L2.DX.itemsO p a))) := by
  intro pins s σ H x as v us Q I rx rs hq
  obtain ⟨a, kvs, rfl, rfl, ha, q⟩ := hq
  cases rx
  cases rs
  obtain ⟨_, hd, vs, rel, o, es, ep, ho, hx, hdat, _⟩ := dk_of I.hok ha
  refine DT.callItems (es := es) (ep := ep) hd ⟨o, ho, hx, hdat⟩ ?_
  exact ⟨.ref _, _, I.laid (t' := s.toks) (fun b u e => Heap.get?_push_of_some _ e) (Nat.le_refl _) (L2.DX.itemsO_ok (Heap.get?_push_size _ rfl)), rfl, q _ (I.hok.fresh (Nat.le_refl _))⟩
theorem pairs_at {P : Program} {w : World} : ∀ {es : List DictEntry} {vs : List (Key × Value)} {kvs : List (Key × V)} {ps : List (Int × Int)} {j : Nat} {e : DictEntry}, Pairs (mixKind P w) es vs → KV kvs vs → kvs = kvI ps → es[j]? = some e →
    ∃ p t, ps[j]? = some p ∧ e.key = .int p.1 t ∧ RelV (.int p.2) e.val
  | _, _, _, _, j, e, .nil, _, _, h => by simp at h
  | _, _, _, [], _, _, .cons .., .cons .., hk, _ => by cases hk
  | _, _, _, p :: ps, 0, e, .cons h1 h2 t, .cons r1 r2, hk, h => by
    cases hk
    simp only [List.getElem?_cons_zero] at h
    cases h
    obtain ⟨r1, r3⟩ := r1
    rcases keyIs_shape (show keyIs _ _ = true from h1) with ⟨i, t, ek, ev⟩ | ⟨z, t, ek, ev⟩
    · rw [← r1] at ek
      cases ek
      exact ⟨p, t, rfl, ev, by rw [h2]; exact r3⟩
    · rw [← r1] at ek
      cases ek
  | _, _, _, p :: ps, j + 1, e, .cons h1 h2 t, .cons r1 r2, hk, h => by
    cases hk
    simp only [List.getElem?_cons_succ] at h
    obtain ⟨p', t', a, b, c⟩ := pairs_at t r2 rfl h
    exact ⟨p', t', by rw [List.getElem?_cons_succ]; exact a, b, c⟩
theorem rows_mk {H : Hp} : ∀ {as : List Addr} {ps : List (Int × Int)}, as.length = ps.length → (∀ (j : Nat) a, as[j]? = some a → ∃ p, ps[j]? = some p ∧ RowAt H a p) → Rows H as ps
  | [], [], _, _ => .nil
  | a :: as, p :: ps, hl, h => by
    refine .cons ?_ (rows_mk (by simpa using hl) fun j b e => ?_)
    · obtain ⟨p', e, r⟩ := h 0 a rfl
      cases e
      exact r
    · obtain ⟨p', e', r⟩ := h (j + 1) b e
      exact ⟨p', e', r⟩
  | [], _ :: _, hl, _ => by simp at hl
  | _ :: _, [], hl, _ => by simp at hl
def kOf (H : Hp) : V → Int × Int
  | .ref a => match H a with
    | some (.tup [.int x, .int y]) => (x, y)
    | _ => (0, 0)
  | _ => (0, 0)
theorem kOf_row {H : Hp} {a : Addr} {p : Int × Int} (h : RowAt H a p) : kOf H (.ref a) = p := by
  show (match H a with
    | some (.tup [.int x, .int y]) => (x, y)
    | _ => (0, 0)) = p
  rw [show H a = some (.tup [.int p.1, .int p.2]) from h]
def unref : V → Addr
  | .ref a => a
  | _ => 0
theorem rows_get {H : Hp} : ∀ {as : List Addr} {ps : List (Int × Int)}, Rows H as ps → ps = as.map fun a => kOf H (.ref a)
  | _, _, .nil => rfl
  | _, _, .cons h t => by rw [List.map_cons, kOf_row h, ← rows_get t]
theorem rows_mem {H : Hp} : ∀ {as : List Addr} {ps : List (Int × Int)}, Rows H as ps → ∀ a ∈ as, ∃ p, RowAt H a p
  | _, _, .cons h t, a, m => by
    rcases List.mem_cons.mp m with rfl | m
    · exact ⟨_, h⟩
    · exact rows_mem t a m
theorem rows_all {H : Hp} : ∀ {as : List Addr}, (∀ a ∈ as, ∃ p, RowAt H a p) → Rows H as (as.map fun a => kOf H (.ref a))
  | [], _ => .nil
  | a :: as, h => by
    obtain ⟨p, e⟩ := h a (by simp)
    exact .cons (by show RowAt H a (kOf H (.ref a)); rw [kOf_row e]; exact e) (rows_all fun b m => h b (List.mem_cons_of_mem _ m))
theorem rows_sub {H H' : Hp} : ∀ {as : List Addr} {ps : List (Int × Int)}, (∀ a ∈ as, ∀ o, H a = some o → H' a = some o) → Rows H as ps → Rows H' as ps
  | _, _, _, .nil => .nil
  | _, _, k, .cons h t => .cons (k _ (by simp) _ h) (rows_sub (fun a m => k a (List.mem_cons_of_mem _ m)) t)
theorem vals_refs : ∀ as : List Addr, Vals (as.map V.ref) (as.map Value.ref)
  | [] => .nil
  | _ :: as => .cons rfl (vals_refs as)
theorem rise_inj {as : List Nat} (h : as.Pairwise (· < ·)) {i j : Nat} {a : Nat} (hi : as[i]? = some a) (hj : as[j]? = some a) : i = j := by
  obtain ⟨li, ei⟩ := List.getElem?_eq_some_iff.mp hi
  obtain ⟨lj, ej⟩ := List.getElem?_eq_some_iff.mp hj
  have g := List.pairwise_iff_getElem.mp h
  by_cases c : i < j
  · have := g i j li lj c
    omega
  · by_cases c' : j < i
    · have := g j i lj li c'
      omega
    · omega
/-- a list of refs rearranged -/
theorem refs_perm {zs : List V} {as : List Addr} (h : zs.Perm (as.map V.ref)) : zs = (zs.map unref).map V.ref ∧ (zs.map unref).Perm as := by
  constructor
  · rw [List.map_map]
    refine (List.map_id zs).symm.trans (List.map_congr_left fun z hz => ?_)
    obtain ⟨a, _, rfl⟩ := List.mem_map.mp (h.mem_iff.mp hz)
    rfl
  · have e := h.map unref
    rw [List.map_map] at e
    exact e.trans (List.Perm.of_eq (List.map_id _))
/-- sorted(d.items()), keys and values ints -/
theorem cr_itemsS (hc : X.calm = true) : CallR X (.builtin "sorted") (fun as H Q => ∃ (v a : Addr) (ps : List (Int × Int)), as = [.ref v] ∧ H v = some (L2.DX.itemsO v a) ∧ H a = some (.dK (kvI ps)) ∧
    ∀ H' l (qs : List Addr) (rs : List (Int × Int)), Ex H H' → H' l = some (.lst (qs.map V.ref)) → Rows H' qs rs → rs.Perm ps → rs.Pairwise (fun p q => SrtO.lexB q p = false) → Q (.ref l) H') := by
  intro pins s σ H as us Q I r hq
  obtain ⟨v, a, ps, rfl, hv, ha, q⟩ := hq
  obtain rfl := Vals.ref1 r
  have view : s.heap.IsItemsView v a := (I.hok v _ hv).1
  obtain ⟨hz, hd, vs, rel, o, es, ep, ho, hx, hdat, hks, hps, hnd⟩ := dk_of I.hok ha
  have hn := hps.length
  rw [Array.length_toList] at hn
  have l1 : ps.length = vs.length := by rw [← rel.length]; exact (List.length_map _).symm
  have z1 : ps.length ≤ sizeLine := by rw [l1, ← rel.length]; exact hz
  refine DT.sortedI (es := es) (ep := ep) (I.ok.hd hc) view ⟨o, ho, hx, hdat⟩ (by omega) fun h' tk as hk hlt hl hG => ?_
  have lak : as.length = ps.length := by omega
  have nd : as.Nodup := hG.rise.imp fun h => Nat.ne_of_lt h
  have obj : ∀ (j : Nat) (b : Addr), as[j]? = some b → ∃ p k t, ps[j]? = some p ∧ RelV (.int p.2) t ∧ h'.get? b = some { cls := .type "tuple", data := .seq #[.int p.1 k, t] } := fun j b e => by
    obtain ⟨en, he, hg⟩ := hG.pairs j b e
    obtain ⟨p, k, ep, ek, ev⟩ := pairs_at hps rel rfl (by rw [← he]; exact Array.getElem?_toList)
    exact ⟨p, k, en.val, ep, ev, by rw [hg, ek]⟩
  have hob : (h'.push { cls := .type "list", data := .seq (as.map Value.ref).toArray }).get? h'.objs.size = some { cls := .type "list", data := .seq (as.map Value.ref).toArray } := Heap.get?_push_size _ rfl
  have old : ∀ b u, h'.get? b = some u → (h'.push { cls := .type "list", data := .seq (as.map Value.ref).toArray }).get? b = some u := fun b u e => Heap.get?_push_of_some _ e
  generalize hL : h'.objs.size = L at *
  generalize h'.push { cls := .type "list", data := .seq (as.map Value.ref).toArray } = g at *
  have J : Inv X pins σ (upd H L (.lst (as.map V.ref))) { s with heap := g, toks := tk } :=
    I.laid (t' := tk) (fun b u e => old b u (hk b u e)) (Nat.le_of_lt hlt) ⟨by rw [List.length_map, lak]; exact z1, as.map Value.ref, 0, vals_refs as, hob⟩
  have ltL : ∀ b ∈ as, b ≠ L := fun b hb => Nat.ne_of_lt (by rw [← hL]; exact hG.there hb)
  obtain ⟨H2, J2, up, hT⟩ := L2.DX.takeT (P := fun b vs => ∃ (j : Nat) (p : Int × Int), as[j]? = some b ∧ ps[j]? = some p ∧ vs = [.int p.1, .int p.2]) I as _ J nd fun b hb => by
    obtain ⟨j, hj⟩ := List.mem_iff_getElem?.mp hb
    obtain ⟨p, k, t, hp, rt, hg⟩ := obj j b hj
    have lb := hG.above b hb
    refine ⟨Nat.le_of_lt lb, by rw [upd_ne (ltL b hb)]; exact I.hok.fresh (Nat.le_of_lt lb), [.int p.1, .int p.2], ⟨j, p, hj, hp, rfl⟩, fun H2 => ?_⟩
    exact ⟨by show 2 ≤ sizeLine; decide, [.int p.1 k, t], .cons ⟨k, rfl⟩ (.cons rt .nil), _, old _ _ hg, rfl, 0, rfl⟩
  have rw2 : Rows H2 as ps := rows_mk lak fun j b e => by
    obtain ⟨vs', ⟨j', p, e1, e2, e3⟩, e4⟩ := hT b (List.mem_of_getElem? e)
    obtain rfl := rise_inj hG.rise e e1
    exact ⟨p, e2, by rw [e3] at e4; exact e4⟩
  have hs := mt_sortPO (X := { X with A := X.A.in1 }) pins _ σ H2 (.ref L) [] (.ref L) [] (fun _ H3 => ∃ zs, SrtO.Srtd (ltP (kOf H2)) zs ∧ SrtO.Stb (ltP (kOf H2)) zs (as.map V.ref) ∧ H3 = upd H2 L (.lst zs)) (inA J2) rfl .nil
    ⟨L, as.map V.ref, kOf H2, rfl, rfl, up _ _ upd_same, fun y hy => by
      obtain ⟨b, hb, rfl⟩ := List.mem_map.mp hy
      obtain ⟨p, hp⟩ := rows_mem rw2 b hb
      exact ⟨b, rfl, by rw [kOf_row hp]; exact hp⟩, fun zs h1 h2 => ⟨zs, h1, h2, rfl⟩⟩
  refine wpAny_mono hs (fun _ s' x => ?_) fun _ _ e => e
  obtain ⟨_, _, J3, _, zs, h1, h2, rfl⟩ := x
  obtain ⟨e1, e2⟩ := refs_perm h2.perm
  have sub : ∀ b ∈ zs.map unref, b ∈ as := fun b hb => e2.mem_iff.mp hb
  refine ⟨.ref L, _, outA I.ok J3, rfl, q _ L (zs.map unref) ((zs.map unref).map fun a => kOf H2 (.ref a)) ?_ (by rw [upd_same, ← e1]) ?_ ?_ ?_⟩
  · intro b u e
    have hb : b ≠ L := ne_of_none e (I.hok.fresh (Nat.le_of_lt hlt))
    rw [upd_ne hb]
    exact up b u (by rw [upd_ne hb]; exact e)
  · exact rows_sub (fun b hb u e => by rw [upd_ne (ltL b (sub b hb))]; exact e) (rows_all fun b hb => rows_mem rw2 b (sub b hb))
  · rw [rows_get rw2]
    exact e2.map _
  · rw [e1] at h1
    exact List.pairwise_map.mpr (List.pairwise_map.mp h1)
end
theorem Rows.len {H : Hp} {qs : List Addr} {ps : List (Int × Int)} (r : Rows H qs ps) : qs.length = ps.length := Paired.length r
theorem rows_at {H : Hp} : ∀ {qs : List Addr} {ps : List (Int × Int)} {i : Nat} {p : Int × Int}, Rows H qs ps → ps[i]? = some p → ∃ q, qs[i]? = some q ∧ RowAt H q p
  | _, _, i, p, r, h => L2.DX.pget r h
theorem rows_at' {H : Hp} {qs : List Addr} {ps : List (Int × Int)} {i : Nat} {v : V} (r : Rows H qs ps) (h : (qs.map V.ref)[i]? = some v) : ∃ q p, v = .ref q ∧ qs[i]? = some q ∧ ps[i]? = some p ∧ RowAt H q p := by
  rw [List.getElem?_map] at h
  cases e : qs[i]? with
  | none => rw [e] at h; cases h
  | some q =>
    rw [e] at h
    obtain rfl : V.ref q = v := Option.some.inj h
    have li := (List.getElem?_eq_some_iff.mp e).1
    rw [r.len] at li
    obtain ⟨q', e', ra⟩ := rows_at r (List.getElem?_eq_getElem li)
    rw [e] at e'
    cases e'
    exact ⟨q, _, rfl, rfl, List.getElem?_eq_getElem li, ra⟩
end Lw
/-! sorted(d) of a dict keyed by pairs of ints. -/
namespace Lw
open PySem PySem.Spec PyProof.Rows L2 Evl
def keyP (p : Int × Int) : List Key := [.inl p.1, .inl p.2]
section
variable {X : Cx}
theorem cr_sortedDP (hc : X.calm = true) : CallR X (.builtin "sorted") (fun as H Q => ∃ (d : Addr) (kvs : List (List Key × V)) (ps : List (Int × Int)), Rd H d (.dT kvs) ∧ as = [.ref d] ∧ kvs.map (·.1) = ps.map keyP ∧
    ∀ H' l (qs : List Addr) (rs : List (Int × Int)), Ex H H' → H' l = some (.lst (qs.map V.ref)) → Rows H' qs rs → rs.Perm ps → rs.Pairwise (fun p q => SrtO.lexB q p = false) → Q (.ref l) H') := by
  intro pins s σ H as us Q I r hq
  obtain ⟨d, kvs, ps, hd, rfl, hk, q⟩ := hq
  obtain rfl := Vals.ref1 r
  obtain ⟨z, hs, ks, pr, o, es, ep, ho, hx, hdt, he, hn⟩ := (show ObjOk X.prog X.w H s.heap d (.dT kvs) from hd.ok I.hok)
  have l1 : es.size = ks.length := size_of_entries he
  have l2 : kvs.length = ks.length := Paired.length pr
  have l3 : kvs.length = ps.length := by
    have e := congrArg List.length hk
    rwa [List.length_map, List.length_map] at e
  have rows : Rows H (ks.map fun x => x.2.1) ps := rows_mk (by rw [List.length_map]; omega) fun j a e => by
    rw [List.getElem?_map] at e
    cases hj : ks[j]? with
    | none => rw [hj] at e; cases e
    | some x =>
      rw [hj] at e
      obtain rfl : x.2.1 = a := Option.some.inj e
      obtain ⟨y, hy, e1, e2, _⟩ := L2.DX.pget pr hj
      have e3 : (kvs.map (·.1))[j]? = some y.1 := by rw [List.getElem?_map, hy]; rfl
      rw [hk, List.getElem?_map] at e3
      cases hp : ps[j]? with
      | none => rw [hp] at e3; cases e3
      | some p =>
        rw [hp] at e3
        have e4 : keyP p = y.1 := Option.some.inj e3
        refine ⟨p, rfl, ?_⟩
        rw [← e4] at e2
        exact e2
  refine Calls.call_function_entry kind_sorted plain_sorted entry_sorted (args_sorted1 _) ?_
  unfold Builtin.«sorted»
  refine wpAny_bind (m := checkCount "sorted" 1 1 _) (wpAny_pure ?_)
  refine wpAny_bind (PySem.W.kdu_collect (A := X.A.in1) (kdl_raw hs hx hdt) (I.ok.hd hc) ho (by omega) fun h' tk acc kp it => ?_)
  have la : acc.toList.length = ks.length := by rw [Array.length_toList, it.1]; exact l1
  have ea : acc.toList = (ks.map fun x => x.2.1).map Value.ref := by
    refine List.ext_getElem? fun j => ?_
    rw [List.getElem?_map, List.getElem?_map]
    by_cases c : j < ks.length
    · have gj : acc.toList[j]? = some acc.toList[j] := List.getElem?_eq_getElem (by omega)
      obtain ⟨en, hen, hv⟩ := it.2 j _ (by rw [← Array.getElem?_toList]; exact gj)
      have qe := entry_at he j
      rw [hen, List.getElem?_eq_getElem c] at qe
      rw [gj, hv, Option.some.inj qe, List.getElem?_eq_getElem c]
      rfl
    · rw [List.getElem?_eq_none (by omega), List.getElem?_eq_none (by omega)]
      rfl
  rw [ea]
  generalize hbs : (ks.map fun x => x.2.1) = bs at *
  have lb : bs.length = ps.length := Paired.length rows
  refine wpAny_bind (wpAny_newList ?_ (by rw [List.length_map]; omega))
  have hob : (h'.push { cls := .type "list", data := .seq (bs.map Value.ref).toArray }).get? h'.objs.size = some { cls := .type "list", data := .seq (bs.map Value.ref).toArray } := Heap.get?_push_size _ rfl
  have old : ∀ b u, h'.get? b = some u → (h'.push { cls := .type "list", data := .seq (bs.map Value.ref).toArray }).get? b = some u := fun b u e => Heap.get?_push_of_some _ e
  have J0 : Inv X pins σ H { s with heap := h', toks := tk } := I.kept (t' := tk) kp
  have J : Inv X pins σ (upd H h'.objs.size (.lst (bs.map V.ref))) { s with heap := h'.push { cls := .type "list", data := .seq (bs.map Value.ref).toArray }, toks := tk } :=
    J0.laid (t' := tk) old (Nat.le_refl _) ⟨by rw [List.length_map]; omega, bs.map Value.ref, 0, Lw.vals_refs bs, hob⟩
  have hL : H h'.objs.size = none := J0.hok.fresh (Nat.le_refl _)
  have rows2 : Rows (upd H h'.objs.size (.lst (bs.map V.ref))) bs ps := rows.up (Ex.new hL)
  generalize h'.objs.size = L at *
  generalize h'.push { cls := .type "list", data := .seq (bs.map Value.ref).toArray } = g at *
  have ltL : ∀ b ∈ bs, b ≠ L := fun b hb => by
    obtain ⟨p, e⟩ := rows_mem rows b hb
    exact ne_of_none e hL
  have hs := mt_sortPO (X := { X with A := X.A.in1 }) pins _ σ _ (.ref L) [] (.ref L) [] (fun _ H3 => ∃ zs, SrtO.Srtd (ltP (kOf H)) zs ∧ SrtO.Stb (ltP (kOf H)) zs (bs.map V.ref) ∧ H3 = upd (upd H L (.lst (bs.map V.ref))) L (.lst zs)) (inA J) rfl .nil
    ⟨L, bs.map V.ref, kOf H, rfl, rfl, upd_same, fun y hy => by
      obtain ⟨b, hb, rfl⟩ := List.mem_map.mp hy
      obtain ⟨p, hp⟩ := rows_mem rows b hb
      exact ⟨b, rfl, by rw [kOf_row hp, upd_ne (ltL b hb)]; exact hp⟩, fun zs h1 h2 => ⟨zs, h1, h2, rfl⟩⟩
  refine wpAny_bind (wpAny_holding (wpAny_mono hs (fun _ s' x => ?_) fun _ _ e => e))
  obtain ⟨_, _, J3, _, zs, h1, h2, rfl⟩ := x
  obtain ⟨e1, e2⟩ := refs_perm h2.perm
  have sub : ∀ b ∈ zs.map unref, b ∈ bs := fun b hb => e2.mem_iff.mp hb
  rw [upd_upd] at J3
  refine wpAny_pure ⟨_, rfl, .ref L, _, outA I.ok J3, rfl, q _ L (zs.map unref) ((zs.map unref).map fun a => kOf H (.ref a)) (Ex.new hL) (by rw [upd_same, ← e1]) ?_ ?_ ?_⟩
  · exact rows_sub (fun b hb u e => by rw [upd_ne (ltL b (sub b hb))]; exact e) (rows_all fun b hb => rows_mem rows b (sub b hb))
  · rw [rows_get rows]
    exact e2.map _
  · rw [e1] at h1
    exact List.pairwise_map.mpr (List.pairwise_map.mp h1)
end
abbrev Box := Int × Int × Int × Int
abbrev BoxAt (H : Hp) (q : Addr) (b : Box) : Prop := H q = some (.tup [.int b.1, .int b.2.1, .int b.2.2.1, .int b.2.2.2])
abbrev Boxes (H : Hp) : List Addr → List Box → Prop := Paired (BoxAt H)
/-- the point is one of the rectangle's -/
def InBox (b : Box) (p : Int × Int) : Prop := b.1 ≤ p.1 ∧ p.1 < b.1 + b.2.2.1 ∧ b.2.1 ≤ p.2 ∧ p.2 < b.2.1 + b.2.2.2
def Small (b : Box) : Prop := 0 ≤ b.2.2.1 ∧ b.2.2.1 ≤ 7 ∧ 0 ≤ b.2.2.2 ∧ b.2.2.2 ≤ 7
theorem Boxes.up {H H' : Hp} (e : Ex H H') : ∀ {qs : List Addr} {bs : List Box}, Boxes H qs bs → Boxes H' qs bs
  | _, _, .nil => .nil
  | _, _, .cons h t => .cons (e _ _ h) (Boxes.up e t)
theorem boxes_at {H : Hp} {qs : List Addr} {bs : List Box} {i : Nat} {v : V} (r : Boxes H qs bs) (h : (qs.map V.ref)[i]? = some v) : ∃ q b, v = .ref q ∧ bs[i]? = some b ∧ BoxAt H q b := by
  rw [List.getElem?_map] at h
  cases e : qs[i]? with
  | none => rw [e] at h; cases h
  | some q =>
    rw [e] at h
    have li := (List.getElem?_eq_some_iff.mp e).1
    rw [Paired.length r] at li
    obtain ⟨q', e', ra⟩ := L2.DX.pget r (List.getElem?_eq_getElem li)
    rw [e] at e'
    cases e'
    exact ⟨q, _, (Option.some.inj h).symm, List.getElem?_eq_getElem li, ra⟩
theorem keyP_inj {p q : Int × Int} (h : keyP p = keyP q) : p = q := by
  unfold keyP at h
  injection h with h1 h2
  injection h2 with h2 _
  exact Prod.ext (Sum.inl.inj h1) (Sum.inl.inj h2)
/-- a point stored -/
theorem put_pt {kvs : List (List Key × V)} {ps : List (Int × Int)} {p : Int × Int} {v : V} (hk : kvs.map (·.1) = ps.map keyP) (nd : ps.Nodup) :
    ∃ ps' : List (Int × Int), (putK kvs (keyP p) v).map (·.1) = ps'.map keyP ∧ ps'.Nodup ∧ (∀ q, q ∈ ps' ↔ q ∈ ps ∨ q = p) ∧ ps'.length ≤ ps.length + 1 := by
  unfold putK
  by_cases c : p ∈ ps
  · have any : (kvs.any fun kv => decide (kv.1 = keyP p)) = true := by
      rw [List.any_eq_true]
      have m : keyP p ∈ kvs.map (·.1) := by rw [hk]; exact List.mem_map.mpr ⟨p, c, rfl⟩
      obtain ⟨kv, h1, h2⟩ := List.mem_map.mp m
      exact ⟨kv, h1, decide_eq_true h2⟩
    rw [if_pos any]
    refine ⟨ps, ?_, nd, fun q => ⟨.inl, fun h => h.elim id fun e => e ▸ c⟩, by omega⟩
    rw [← hk, List.map_map]
    refine List.map_congr_left fun kv _ => ?_
    show (if kv.1 = keyP p then (kv.1, v) else kv).1 = kv.1
    split <;> rfl
  · have any : (kvs.any fun kv => decide (kv.1 = keyP p)) = false := by
      rw [List.any_eq_false]
      intro kv m z
      have m2 : kv.1 ∈ kvs.map (·.1) := List.mem_map.mpr ⟨kv, m, rfl⟩
      rw [hk] at m2
      obtain ⟨q, h1, h2⟩ := List.mem_map.mp m2
      rw [of_decide_eq_true z] at h2
      exact c (keyP_inj h2 ▸ h1)
    rw [any, if_neg Bool.false_ne_true]
    refine ⟨ps ++ [p], by rw [List.map_append, hk, List.map_append]; rfl, ?_, fun q => by simp, by simp⟩
    refine List.nodup_append.mpr ⟨nd, by simp, fun x hx y hy => ?_⟩
    obtain rfl : y = p := by simpa using hy
    exact fun z => c (z ▸ hx)
/-- before, by the first number, then by the second -/
def Lex (p q : Int × Int) : Prop := p.1 < q.1 ∨ p.1 = q.1 ∧ p.2 < q.2
theorem lex_of {rs : List (Int × Int)} (h : rs.Pairwise fun p q => SrtO.lexB q p = false) (nd : rs.Nodup) : rs.Pairwise Lex := by
  refine (h.and nd).imp fun {p q} ⟨a, b⟩ => ?_
  have c := SrtO.lexB_no.mp a
  by_cases e : p.1 = q.1
  · refine .inr ⟨e, ?_⟩
    have : p.2 ≠ q.2 := fun z => b (Prod.ext e z)
    omega
  · exact .inl (by omega)
/-- the points of a rectangle, row by row -/
theorem box_spots {l t w h : Int} {p : Int × Int} (hw : 0 ≤ w) (hh : 0 ≤ h) : InBox (l, t, w, h) p ↔ ∃ s : Nat, s < (w * h).toNat ∧ p = (l + (s : Int) % w, t + (s : Int) / w) := by
  constructor
  · rintro ⟨h1, h2, h3, h4⟩
    simp only at h1 h2 h3 h4
    refine ⟨((p.2 - t) * w + (p.1 - l)).toNat, ?_, ?_⟩
    · have a : (p.2 - t) * w ≤ (h - 1) * w := Int.mul_le_mul_of_nonneg_right (by omega) hw
      have b : (h - 1) * w = w * h - w := by rw [Int.sub_mul, Int.mul_comm h w, Int.one_mul]
      have c : 0 ≤ (p.2 - t) * w := Int.mul_nonneg (by omega) hw
      omega
    · have c : 0 ≤ (p.2 - t) * w := Int.mul_nonneg (by omega) hw
      have e : (((p.2 - t) * w + (p.1 - l)).toNat : Int) = (p.1 - l) + (p.2 - t) * w := by omega
      rw [e, Int.add_mul_emod_self_right, Int.add_mul_ediv_right _ _ (by omega), Int.emod_eq_of_lt (by omega) (by omega), Int.ediv_eq_zero_of_lt (by omega) (by omega)]
      exact Prod.ext (by show p.1 = l + (p.1 - l); omega) (by show p.2 = t + (0 + (p.2 - t)); omega)
  · rintro ⟨s, hs, rfl⟩
    have wp : 0 < w := by
      rcases Int.lt_or_eq_of_le hw with c | c
      · exact c
      · rw [← c, Int.zero_mul] at hs
        exact absurd hs (Nat.not_lt_zero _)
    have a := Int.emod_nonneg (s : Int) (Int.ne_of_gt wp)
    have b := Int.emod_lt_of_pos (s : Int) wp
    have c := Int.ediv_nonneg (Int.natCast_nonneg s) hw
    have d : (s : Int) / w < h := Int.ediv_lt_of_lt_mul wp (by rw [Int.mul_comm]; omega)
    exact ⟨by show l ≤ l + _; omega, by show l + _ < l + w; omega, by show t ≤ t + _; omega, by show t + _ < t + h; omega⟩
def GoodBox (b : Box) : Prop := (-1000000000000 ≤ b.1 ∧ b.1 ≤ 1000000000000) ∧ (-1000000000000 ≤ b.2.1 ∧ b.2.1 ≤ 1000000000000) ∧ (0 ≤ b.2.2.1 ∧ b.2.2.1 ≤ 1000000000000) ∧ 0 ≤ b.2.2.2 ∧ b.2.2.2 ≤ 1000000000000
theorem inB_ok {lo hi i : Int} (h : lo ≤ i ∧ i ≤ hi) : inB lo hi (.int i) = true := by
  show (decide (lo ≤ i) && decide (i ≤ hi)) = true
  rw [decide_eq_true h.1, decide_eq_true h.2]; rfl
theorem rectL_good {b : Box} (h : GoodBox b) : rectL [.int b.1, .int b.2.1, .int b.2.2.1, .int b.2.2.2] = true := by
  obtain ⟨h1, h2, h3, h4⟩ := h
  show (inB _ _ _ && inB _ _ _ && inB _ _ _ && inB _ _ _) = true
  rw [inB_ok h1, inB_ok h2, inB_ok h3, inB_ok h4]; rfl
/-- the rectangle of the points that both have -/
def ovl (a b : Box) : Option Box :=
  if min (a.1 + a.2.2.1) (b.1 + b.2.2.1) ≤ max a.1 b.1 ∨ min (a.2.1 + a.2.2.2) (b.2.1 + b.2.2.2) ≤ max a.2.1 b.2.1 then none
  else some (max a.1 b.1, max a.2.1 b.2.1, min (a.1 + a.2.2.1) (b.1 + b.2.2.1) - max a.1 b.1, min (a.2.1 + a.2.2.2) (b.2.1 + b.2.2.2) - max a.2.1 b.2.1)
def OvAt (H : Hp) (v : V) : Option Box → Prop
  | none => v = .non
  | some c => ∃ t, v = .ref t ∧ BoxAt H t c
theorem mx_eq {a b : Int} : (if b > a then b else a) = max a b := by split <;> omega
theorem mn_eq {a b : Int} : (if b < a then b else a) = min a b := by split <;> omega
/-- a drawn rectangle -/
def SmallBox (b : Box) : Prop := (-4 ≤ b.1 ∧ b.1 ≤ 4) ∧ (-4 ≤ b.2.1 ∧ b.2.1 ≤ 4) ∧ (0 ≤ b.2.2.1 ∧ b.2.2.1 ≤ 5) ∧ 0 ≤ b.2.2.2 ∧ b.2.2.2 ≤ 5
theorem SmallBox.small {b : Box} (h : SmallBox b) : Small b := ⟨h.2.2.1.1, by have := h.2.2.1.2; omega, h.2.2.2.1, by have := h.2.2.2.2; omega⟩
theorem SmallBox.good {b : Box} (h : SmallBox b) : GoodBox b := by
  obtain ⟨⟨a1, a2⟩, ⟨b1, b2⟩, ⟨c1, c2⟩, d1, d2⟩ := h
  exact ⟨⟨by omega, by omega⟩, ⟨by omega, by omega⟩, ⟨by omega, by omega⟩, by omega, by omega⟩
/-- a point as data -/
def datP (p : Int × Int) : PyData := .tuple [.int p.1, .int p.2]
theorem lay_pts (ps : List (Int × Int)) : PyData.canLayAll0 (ps.map datP) = true := by
  induction ps with
  | nil => rfl
  | cons p ps ih => simp [PyData.canLayAll0, PyData.canLay0, datP, ih]
theorem deep_pts (ps : List (Int × Int)) : PyData.depthAll (ps.map datP) ≤ 1 := by
  induction ps with
  | nil => decide
  | cons p ps ih =>
    rw [List.map_cons, PyData.depthAll]
    exact Nat.max_le.mpr ⟨by simp [PyData.depth, PyData.depthAll, datP], ih⟩
theorem shaped_pts (ps : List (Int × Int)) : SeqAt.shaped (.list (ps.map datP)) = true := by
  unfold SeqAt.shaped
  rw [PyData.canLay0, PyData.depth, lay_pts, decide_eq_true (by have := deep_pts ps; omega)]
  rfl
theorem shaped_pt (p : Int × Int) : SeqAt.shaped (datP p) = true := by
  simp [SeqAt.shaped, datP, PyData.canLay0, PyData.canLayAll0, PyData.depth, PyData.depthAll]
theorem eqv_pt {p q : Int × Int} : PyData.eqv (datP p) (datP q) = decide (p = q) := by
  by_cases e : p = q
  · subst e
    rw [SeqAt.eqv_refl _ (SeqAt.canLay_of_shaped (shaped_pt p)), decide_eq_true rfl]
  · rw [decide_eq_false e]
    have ne : ¬ (p.1 = q.1 ∧ p.2 = q.2) := fun z => e (Prod.ext z.1 z.2)
    simp [datP, PyData.eqv, PyData.eqvAll]
    intro z1 z2
    exact ne ⟨z1, z2⟩
theorem any_pt {p : Int × Int} {ps : List (Int × Int)} : ((ps.map datP).any fun z => PyData.eqv z (datP p)) = decide (p ∈ ps) := by
  induction ps with
  | nil => rfl
  | cons q ps ih =>
    rw [List.map_cons, List.any_cons, ih, eqv_pt]
    by_cases e : q = p
    · subst e; simp
    · have e' : ¬ p = q := fun z => e z.symm
      simp [e, e']
theorem dp_pts {K : PySem.W.Frag} {H : Hp} {qs : List Addr} {ps : List (Int × Int)} (r : Rows H qs ps) : DpAll K H (qs.map V.ref) (ps.map datP) := by
  induction r with
  | nil => exact .nil
  | cons h t ih => exact .cons (.tup (SqT.of h) (.cons (.int _) (.cons (.int _) .nil))) ih
/-- a point among points -/
theorem in_pts {K : PySem.W.Frag} {H : Hp} {a l : Addr} {p : Int × Int} {qs : List Addr} {ps : List (Int × Int)} {Q : VK} (hp : RowAt H a p) (hl : SqL K H l (qs.map V.ref)) (r : Rows H qs ps) (q : Q (.bl (decide (p ∈ ps))) H) : rInD K (.ref a) (.ref l) H Q :=
  ⟨datP p, ps.map datP, .tup (SqT.of hp) (.cons (.int _) (.cons (.int _) .nil)), .lst hl (dp_pts r), shaped_pt p, shaped_pts ps, by rw [any_pt]; exact q⟩
/-- points == [] -/
theorem eq_nil {K : PySem.W.Frag} {H : Hp} {a l : Addr} {qs : List Addr} {ps : List (Int × Int)} {Q : VK} (hl : SqL K H a (qs.map V.ref)) (r : Rows H qs ps) (h : H l = some (.lst [])) (q : Q (.bl (decide (ps = []))) H) : rEqD K (.ref a) (.ref l) H Q := by
  refine ⟨_, _, .lst hl (dp_pts r), .lst (SqL.of h) .nil, shaped_pts ps, by decide +kernel, ?_⟩
  have e : PyData.eqv (.list (ps.map datP)) (.list []) = decide (ps = []) := by
    cases ps with
    | nil => rfl
    | cons p ps => simp [PyData.eqv, PyData.eqvAll]
  rw [e]
  exact q
theorem u65 {k : Nat} {A : Around} (r : Room k A) : A.units + 65 < cLine := by have := r.un; omega
instance {b : Box} {p : Int × Int} : Decidable (InBox b p) := by unfold InBox; infer_instance
/-- the points that lie in b are kept -/
def SiftQ (b : Box) (fs : List (Int × Int)) : PeT := fun i o H => ∃ p, fs[i]? = some p ∧ ((InBox b p ∧ ∃ q, o = some (.ref q) ∧ RowAt H q p) ∨ (¬ InBox b p ∧ o = none))
theorem siftQ_mono (b : Box) (fs : List (Int × Int)) : Mono (SiftQ b fs) := fun i o H H' e ⟨p, h, r⟩ => ⟨p, h, r.imp (fun ⟨a, q, c, d⟩ => ⟨a, q, c, e _ _ (fun xs => by intro z; cases z) d⟩) id⟩
theorem siftQ_all {H : Hp} {b : Box} : ∀ {os : List (Option V)} {fs : List (Int × Int)}, os.length = fs.length → (∀ (i : Nat) o, os[i]? = some o → SiftQ b fs i o H) → ∃ qs : List Addr, os.filterMap id = qs.map V.ref ∧ Rows H qs (fs.filter fun p => decide (InBox b p))
  | [], [], _, _ => ⟨[], rfl, .nil⟩
  | o :: os, p :: fs, hl, h => by
    obtain ⟨qs, e2, t⟩ := siftQ_all (os := os) (fs := fs) (by simpa using hl) fun i z e => h (i + 1) z e
    obtain ⟨p', e, r⟩ := h 0 o rfl
    cases e
    rcases r with ⟨a, q, rfl, c⟩ | ⟨a, rfl⟩
    · exact ⟨q :: qs, by show V.ref q :: os.filterMap id = _; rw [e2]; rfl, by rw [List.filter_cons_of_pos (by simpa using a)]; exact .cons c t⟩
    · exact ⟨qs, by show os.filterMap id = _; exact e2, by rw [List.filter_cons_of_neg (by simpa using a)]; exact t⟩
  | [], _ :: _, hl, _ => by simp at hl
  | _ :: _, [], hl, _ => by simp at hl
/-- the points of both -/
theorem both_box {a b : Box} {p : Int × Int} : (InBox a p ∧ InBox b p) ↔ (max a.1 b.1 ≤ p.1 ∧ p.1 < min (a.1 + a.2.2.1) (b.1 + b.2.2.1)) ∧ max a.2.1 b.2.1 ≤ p.2 ∧ p.2 < min (a.2.1 + a.2.2.2) (b.2.1 + b.2.2.2) := by
  unfold InBox
  constructor
  · rintro ⟨⟨h1, h2, h3, h4⟩, h5, h6, h7, h8⟩
    exact ⟨⟨by omega, by omega⟩, by omega, by omega⟩
  · rintro ⟨⟨h1, h2⟩, h3, h4⟩
    exact ⟨⟨by omega, by omega, by omega, by omega⟩, by omega, by omega, by omega, by omega⟩
theorem ovl_none {a b : Box} {fs : List (Int × Int)} (m : ∀ p, p ∈ fs ↔ InBox a p ∧ InBox b p) (h : fs = []) : ovl a b = none := by
  refine if_pos (Decidable.byContradiction fun z => ?_)
  have c : (max a.1 b.1, max a.2.1 b.2.1) ∈ fs := (m _).mpr (both_box.mpr ⟨⟨Int.le_refl _, by omega⟩, Int.le_refl _, by omega⟩)
  rw [h] at c
  cases c
theorem ovl_some {a b : Box} {fs : List (Int × Int)} (m : ∀ p, p ∈ fs ↔ InBox a p ∧ InBox b p) (h : fs ≠ []) {x y u v : Int} (hx : x ∈ fs.map (·.1)) (lx : ∀ z ∈ fs.map (·.1), x ≤ z) (hy : y ∈ fs.map (·.2)) (ly : ∀ z ∈ fs.map (·.2), y ≤ z)
    (hu : u ∈ fs.map (·.1)) (gu : ∀ z ∈ fs.map (·.1), z ≤ u) (hv : v ∈ fs.map (·.2)) (gv : ∀ z ∈ fs.map (·.2), z ≤ v) : ovl a b = some (x, y, u - x + 1, v - y + 1) := by
  have ex : ∃ p, p ∈ fs := List.exists_mem_of_ne_nil fs h
  obtain ⟨p, hp⟩ := ex
  have bp := both_box.mp ((m p).mp hp)
  obtain ⟨px, hpx, rfl⟩ := List.mem_map.mp hx
  obtain ⟨py, hpy, rfl⟩ := List.mem_map.mp hy
  obtain ⟨pu, hpu, rfl⟩ := List.mem_map.mp hu
  obtain ⟨pv, hpv, rfl⟩ := List.mem_map.mp hv
  have bx := both_box.mp ((m px).mp hpx)
  have by' := both_box.mp ((m py).mp hpy)
  have bu := both_box.mp ((m pu).mp hpu)
  have bv := both_box.mp ((m pv).mp hpv)
  have c1 : (max a.1 b.1, max a.2.1 b.2.1) ∈ fs := (m _).mpr (both_box.mpr ⟨⟨Int.le_refl _, by omega⟩, Int.le_refl _, by omega⟩)
  have c2 : (min (a.1 + a.2.2.1) (b.1 + b.2.2.1) - 1, min (a.2.1 + a.2.2.2) (b.2.1 + b.2.2.2) - 1) ∈ fs := (m _).mpr (both_box.mpr ⟨⟨by show _ ≤ _ - 1; omega, by show _ - 1 < _; omega⟩, by show _ ≤ _ - 1; omega, by show _ - 1 < _; omega⟩)
  have d1 := lx _ (List.mem_map.mpr ⟨_, c1, rfl⟩)
  have d2 := ly _ (List.mem_map.mpr ⟨_, c1, rfl⟩)
  have d3 := gu _ (List.mem_map.mpr ⟨_, c2, rfl⟩)
  have d4 := gv _ (List.mem_map.mpr ⟨_, c2, rfl⟩)
  simp only at d1 d2 d3 d4
  unfold ovl
  rw [if_neg (by omega)]
  refine congrArg some ?_
  refine Prod.ext (by show max _ _ = px.1; omega) (Prod.ext (by show max _ _ = py.2; omega) (Prod.ext (by show min _ _ - _ = pu.1 - px.1 + 1; omega) (by show min _ _ - _ = pv.2 - py.2 + 1; omega)))
theorem ints_of_rows {f : Int × Int → Int} {fs : List (Int × Int)} {ys : List V} (hl : ys.length = fs.length) (h : ∀ (i : Nat) y, ys[i]? = some y → ∃ p, fs[i]? = some p ∧ y = .int (f p)) : ys = (fs.map f).map V.int := by
  refine List.ext_getElem? fun i => ?_
  rw [List.getElem?_map, List.getElem?_map]
  by_cases c : i < ys.length
  · obtain ⟨p, e1, e2⟩ := h i ys[i] (List.getElem?_eq_getElem c)
    rw [List.getElem?_eq_getElem c, e1, e2]
    rfl
  · rw [List.getElem?_eq_none (by omega), List.getElem?_eq_none (by omega)]
    rfl
theorem one_small {a : Box} (h : SmallBox a) : ∀ b ∈ [a], Small b := fun b m => by
  obtain rfl : b = a := by simpa using m
  exact h.small
end Lw
/-! Exceptions of one's own: Base.__init__(self, ..), Base an own class without an __init__. -/
namespace Lw
open PySem PySem.Spec PyProof.Rows L2 Evl
section
variable {X : Cx} {e : Expr} {es : List Expr} {ta : TA} {p1 p2 pos : Pos} {x : Str} {B : Addr}
/-- what the written part says of the base -/
structure BaseC (K : PySem.W.Frag) (B : Addr) : Prop where
  ga : PySem.W.specialIn K (.ref B) "__getattribute__" = some (some (.builtin "type.__getattribute__"))
  ty : PySem.W.typeIn K (.ref B) = some (.type "type")
  rd : PySem.W.readsIn K B (.type "type") = true
  fc : PySem.W.findCls K (.ref B) (.type "type") "__init__" = some (.val (.builtin "ValueError.__init__"))
theorem pe_binit {pl : Sem Bool} (hg : Gl X x) (hm : X.mg x = some (.ref B)) (b : BaseC X.K B) (ha : PA X (e :: es) ta) (hd : (x == ("__debug__" : Str)) = false := by decide)
    (hc : eval (.Call (.Attribute (.Name x p1) "__init__" p2) (e :: es) [] pos) X.env = (do
      let ov ← eval (.Name x p1) X.env
      standAt p2.atName
      let (f, first) ← holding [ov] (getMethod ov "__init__" pl)
      callWith pos f first (backTo pos (starEach (e :: es) X.env)) (backToKw pos (keywordEach [] X.env))) := by rfl)
    (hs : starEach (e :: es) X.env = (false, eval e X.env) :: starEach es X.env := by rfl) (hpl : (backTo pos (starEach es X.env)).any (·.1) = false := by rfl) :
    PE X (.Call (.Attribute (.Name x p1) "__init__" p2) (e :: es) [] pos) (tVeI X.K ta) := by
  refine ⟨fun pins s σ H Q I hq => ?_⟩
  refine PySem.W.methodCall_KW (ld_glob I hg hm ?_ hd) hc
  obtain ⟨m, fr⟩ := I.fr
  refine PySem.W.method_of_cls fr I.ok.mod.kin b.ga (PySem.W.cls_val fr I.ok.mod.kin b.ty b.rd b.fc (by decide +kernel) ?_)
  show wpAny _ _ (callWith pos (Value.builtin "ValueError.__init__") [] (backTo pos (starEach (e :: es) X.env)) []) _ _ _
  refine PyProof.Rows.callWith_method1 (thn (ha.run pos pins _ σ H _ (I.tok _) hq) fun us s1 hh => ?_) hs hpl
  obtain ⟨vs, H1, J, rv, a, C, ws, rfl, hl, T, ea, q⟩ := hh
  cases rv with
  | cons r0 rt =>
    cases r0
    exact oinit_ok T J ea (by rw [← Paired.length rt]; exact Nat.le_trans hl (by decide)) fun s' J' => ⟨.non, H1, J', rfl, q⟩
end
section
variable {P : Program} {w : World} {K : PySem.W.Frag} {mg : Str → Option Value} {base : Heap} {k : Nat} {x : Str} {st : Stmt} {ps N : List Str} {sp : Sp}
/-- a def that may raise -/
theorem clX_of (D : DefAt K mg x st) (S : FnScope N ps (defScope st)) (len : ∀ vs H Q E, sp vs H Q E → vs.length = ps.length)
    (hbody : ∀ (f : Addr) (cdv : Value) (A : Around) (outer : List Env) (s : Shared) (H : Hp) (vs : List V) (Q : VK) (E : XK), Room k (A.deeper (envOfC x (defScope st) s.heap.objs.size f cdv)) → sp vs H Q E →
      ∃ t, PSs (cxOf (L2.CX P w) P w K mg base N x (defScope st) f cdv A outer s H E) (defBody st) t ∧ t { nx := fun _ H' => Q .non H', rt := Q } (start N vs) H) : Cl P w K mg base (L2.CX P w) (k + 1) x st ps sp := by
  obtain ⟨f, fd, F, m⟩ := D.ex
  exact ⟨f, fd, F, F.okX S len (hbody f), m⟩
end
/-- what an own exception's __init__ does: Base.__init__(self, ..), self.value = value -/
def spInit (C : Addr) : Sp := fun vs H Q _ => ∃ a v, H a = some (exo a C none) ∧ vs = [.ref a, v] ∧ ∀ d, H d = none → d ≠ a → Q .non (upd (upd H d (exd d [("value", v)])) a (exo a C (some d)))
/-- an own exception class of the text: its __init__ keeps spInit -/
structure ExcAt (P : Program) (w : World) (K : PySem.W.Frag) (mg : Str → Option Value) (base : Heap) (x : Str) (C : Addr) : Prop where
  nm : mg x = some (.ref C)
  oex : OexC K C
  ini : ∃ f fd, PySem.W.findIn K (.ref C) "__init__" = some (some (.ref f)) ∧ PySem.W.typeIn K (.ref f) = some (.type "function") ∧ FnOk P w K mg base CX0 1 f fd ["self", "value"] (spInit C) ∧ Binds K fd ["self", "value"] []
section
variable {X : Cx} {e : Expr} {te : TE} {x : Str} {C : Addr} {p pos : Pos} {W : WX}
/-- raise x(e) -/
theorem ps_raiseO {ta : TA} (hc : X.calm = true) (tk : Takes X W) (c : ExcAt X.prog X.w X.K X.mg X.base x C) (hr : Room 2 X.A) (hg : Gl X x) (ha : PA X [e] ta) (hd : (x == ("__debug__" : Str)) = false := by decide)
    (hs : starEach [e] X.env = (false, eval e X.env) :: starEach [] X.env := by rfl) (hpl : (backTo p (starEach [] X.env)).any (·.1) = false := by rfl) {q : Pos} :
    PS X (.Raise (some (.Call (.Name x q) [e] [] p)) none pos) (fun _ σ H => tMkO C (spInit C) [] ta σ H fun cls d H' => W cls d σ H') := by
  obtain ⟨f, fd, iC, tI, F1, hb⟩ := c.ini
  exact ps_raise (pos := pos) hc tk (pmk_oex (p := q) (pos := p) c.oex iC tI F1 hr hb .nil pass0 hg c.nm ha hd hs hpl)
end
/-- what a raise of such a class comes to -/
theorem mkO_in {C : Addr} {v : V} {H1 : Hp} {Q : XK} (q : ∀ d H2, Ex H1 H2 → H2 d = some (.xd [("value", v)]) → Q (.ref C) (some d) H2) :
    [v].length ≤ 1000 ∧ ∀ a, H1 a = none → spInit C (.ref a :: ([v] ++ [])) (upd H1 a (exo a C none))
      (fun v H2 => v = .non ∧ ∃ (d : Addr) (fs : List (Str × V)), H2 a = some (exo a C (some d)) ∧ H2 d = some (exd d fs) ∧ H1 d = none ∧ Q (.ref C) (some d) (upd (del H2 a) d (.xd fs))) (fun _ _ _ => False) := by
  refine ⟨by show 1 ≤ 1000; decide, fun a na => ?_⟩
  refine ⟨a, v, upd_same, rfl, fun d hd2 ne => ?_⟩
  have hd1 : H1 d = none := by rw [upd_ne ne] at hd2; exact hd2
  refine ⟨rfl, d, _, upd_same, by rw [upd_ne ne, upd_same], hd1, q d _ (fun b u hb => ?_) upd_same⟩
  have n1 : b ≠ d := ne_of_none hb hd1
  have n2 : b ≠ a := ne_of_none hb na
  rw [upd_ne n1]
  show (if b = a then none else _) = _
  rw [if_neg n2, upd_ne n2, upd_ne n1, upd_ne n2]
  exact hb
/-- what the text says of an own exception class that has its own __init__ -/
structure ClsAt (K : PySem.W.Frag) (mg : Str → Option Value) (x q : Str) (st : Stmt) : Prop where
  ex : ∃ (C B f : Addr) (fd : FuncData), mg x = some (.ref C) ∧ OexC K C ∧ PySem.W.findIn K (.ref C) "__init__" = some (some (.ref f)) ∧ PySem.W.typeIn K (.ref f) = some (.type "function") ∧
    Fun K "__init__" q st f fd ∧ PySem.W.findIn K (.ref C) "value" = some none ∧ mg "FormError" = some (.ref B) ∧ BaseC K B
theorem clsAt_mk {K : PySem.W.Frag} {mg : Str → Option Value} {x q : Str} {st : Stmt} {h : Heap} {C B f N : Addr} {nm qq : Str} {bs bm : List Value} {sn : List Str} {sub : List Value} {ab : Bool} {col : Option Bool} {dd : Option Addr} {k0 k1 k2 k3 k5 : Option Value}
    {oc : Value} {od an : Option Addr} {osl : Array (Option Value)} {kV doc pm cdv ct : Value} (X : K.In h) (G : h.Ns mainGlobals mg) (a : PySem.W.nsIn K mainGlobals x = some (some (.ref C)))
    (cl : K.lookup C = some (excClassObj nm qq C N bs bm true sn sub ab col dd k0 k1 k2 k3 k5 "ValueError.__new__")) (r : PySem.HandSPX.refsVE bm = true)
    (sa : PySem.W.findIn K (.ref C) "__setattr__" = some (some (.builtin "object.__setattr__"))) (exC : PySem.W.subIn K (.ref C) (.type "BaseException") = some true) (tyC : PySem.W.typeIn K (.ref C) = some (.type "type")) (kC : PySem.W.keepIn K (.ref C) = true)
    (i : PySem.W.findIn K (.ref C) "__init__" = some (some (.ref f))) (ti : PySem.W.typeIn K (.ref f) = some (.type "function"))
    (l : K.lookup f = some ⟨oc, od, .func (PySem.W.fnOf "__init__" q (defArgs st) (defBody st) (defScope st) .none kV doc pm an cdv ct), osl⟩) (c : PySem.W.codeIn K cdv q = true) (kp : PySem.W.keepIn K (.ref f) = true)
    (no : PySem.W.findIn K (.ref C) "value" = some none) (aB : PySem.W.nsIn K mainGlobals "FormError" = some (some (.ref B)))
    (ga : PySem.W.specialIn K (.ref B) "__getattribute__" = some (some (.builtin "type.__getattribute__"))) (ty : PySem.W.typeIn K (.ref B) = some (.type "type")) (rd : PySem.W.readsIn K B (.type "type") = true)
    (fc : PySem.W.findCls K (.ref B) (.type "type") "__init__" = some (.val (.builtin "ValueError.__init__"))) : ClsAt K mg x q st :=
  ⟨C, B, f, _, PySem.W.mg_of X G a, ⟨⟨_, _, _, _, _, _, _, _, _, _, _, _, _, _, _, cl, r⟩, sa, exC, tyC, kC⟩, i, ti, fun_mk l c kp, no, PySem.W.mg_of X G aB, ga, ty, rd, fc⟩
end Lw
/-! try: .. except (A, B, C) as e: .., where the suite keeps the exception in a name: behind the suite it is an object like others. -/
namespace Lw
open PySem PySem.Spec PyProof.Rows L2 Evl
/-- at a: an exception, its class and its dict are known -/
def exc (a : Addr) (cls : Value) (d : Option Addr) : HO := .ext fun g => ∃ (oe : Obj) (fv : Array Value), g.get? a = some oe ∧ Zc cls d oe ∧ oe.data = .fields fv
theorem exc_ok {P : Program} {w : World} {H : Hp} {g : Heap} {a : Addr} {cls : Value} {d : Option Addr} {oe : Obj} {fv : Array Value} (e : g.get? a = some oe) (z : Zc cls d oe) (f : oe.data = .fields fv) : ObjOk P w H g a (exc a cls d) :=
  ⟨⟨oe, fv, e, z, f⟩, ⟨oe, e⟩, fun _ _ ⟨o, v, q, r⟩ st => ⟨o, v, st o q, r⟩⟩
section
variable {X : Cx} {pins : List (Addr × Obj)} {σ : L2.St} {H : Hp} {s : Shared} {a : Addr} {cls : Value} {d : Option Addr} {oe : Obj} {fv : Array Value}
/-- an object that no one tracked, made behind the def's start -/
theorem inv_caught (I : Inv X pins σ H s) (hn : H a = none) (h0 : a ∈ X.ex ∨ X.s_0.heap.get? a = none) (hL : a ≠ X.env.locals) (hp : ∀ p ∈ X.pn ++ pins, p.1 ≠ a) (e : s.heap.get? a = some oe) (z : Zc cls d oe) (f : oe.data = .fields fv) :
    Inv X pins σ (upd H a (exc a cls d)) s := by
  have old : ∀ {b u}, H b = some u → upd H a (exc a cls d) b = some u := fun {b u} q => by rw [upd_ne (ne_of_none q hn)]; exact q
  have was : ∀ {b o}, X.s_0.heap.get? b = some o → b ∉ X.ex → b ≠ a := fun {b o} q hx zz => by
    rcases h0 with h0 | h0
    · exact hx (zz ▸ h0)
    · rw [zz, h0] at q; cases q
  refine ⟨I.ok, I.os, I.bare, ⟨I.base.keep, I.base.slot, fun b o q n hx => ?_, I.base.there, fun b xs q => old (I.base.tups b xs q), fun b o u q => old (I.base.frzs b o u q), fun b qs q => ?_⟩, I.loc, I.cell, ?_, fun x c q => ?_, fun p m => ?_, fun b u q => ?_, I.len⟩
  · rw [upd_ne (was q hx)]
    exact I.base.free b o q n hx
  · obtain ⟨more, m⟩ := I.base.tbls b qs q
    exact ⟨more, old m⟩
  · rw [upd_ne (Ne.symm hL)]
    exact I.free
  · have ne : c ≠ a := fun zz => by
      obtain ⟨v, ob, ho, hd⟩ := I.cell x c q
      rw [zz, e] at ho
      cases ho
      rw [f] at hd
      cases hd
    rw [upd_ne ne]
    exact I.freeC x c q
  · obtain ⟨p1, p2, p3⟩ := I.pin p m
    exact ⟨p1, by rw [upd_ne (hp p m)]; exact p2, p3⟩
  · by_cases hb : b = a
    · subst hb
      rw [upd_same] at q
      cases q
      exact exc_ok e z f
    · rw [upd_ne hb] at q
      exact (I.hok b u q).stay (fun _ _ _ r => r) (fun c r => old r) fun c xs r => old r
theorem sky_new {B : Heap} {l : List Env} {Z : Obj → Prop} {L : Addr} {h : Heap} (k : Sky B l a Z L h) : B.get? a = none := by
  rcases k with k | k | k
  · exact k.2.1
  · exact k.2.1
  · exact k.2.1
theorem flying_more {B : Heap} {l : List Env} {Z : Obj → Prop} {h g : Heap} (k : HandSPX.FlyingZ B l a Z h) (st : ∀ b o, h.get? b = some o → g.get? b = some o) : HandSPX.FlyingZ B l a Z g := by
  obtain ⟨k1, k2, k3, oe, vs, T, oT, ts, a1, a2, a3, a4, a5, a6, a7, a8⟩ := k
  exact ⟨fun b o q => st _ _ (k1 b o q), k2, Heap.FunFrames.of_keeps (fun b o q _ => ⟨o, st _ _ q, rfl⟩) k3, oe, vs, T, oT, ts, st _ _ a1, a2, a3, a4, a5, a6, st _ _ a7, a8⟩
/-- what is wished of an exception of the body: slot i is the clause's name; the suite runs through -/
def wKept (K : PySem.W.Frag) (N : Nat) (cs : List Value) (i : Nat) (ts : Addr → Value → Option Addr → TS) (D : Ends) : WX := fun cls d σ H =>
  PySem.W.exmAny K cls cs = some true ∧ ∀ a, H a = none → σ.length = N → ts a cls d { nx := fun σ' H' => H' a = none → D.nx (σ'.set i none) (upd H' a (exc a cls d)), rt := fun _ _ => False, bk := fun _ _ => False, ct := fun _ _ => False } (σ.set i (some (.ref a))) H
end
section
variable {X : Cx} {x1 x2 x3 n : Str} {c1 c2 c3 : Addr} {i : Nat} {body suite : List Stmt} {b₀ : Stmt} {q1 q2 q3 tp pos pos' : Pos} {tx} {tb : WX → TS} {ts : Addr → Value → Option Addr → TS}
set_option maxHeartbeats 4000000 in
theorem ps_try_kept (hst : X.stack = X.env :: X.outer) (hf : X.env.frame = some X.env.locals) (hN : X.N.Nodup) (hi : X.N[i]? = some n) (hln : X.env.kindOf n = some .local)
    (g1 : Gl X x1) (m1 : X.mg x1 = some (.ref c1)) (g2 : Gl X x2) (m2 : X.mg x2 = some (.ref c2)) (g3 : Gl X x3) (m3 : X.mg x3 = some (.ref c3))
    (hb : ∀ (W : WX) (pn : List (Addr × Obj)) (xe : Value → Shared → Prop), Takes (X.tr pn xe) W → PSs (X.tr pn xe) body (tb W))
    (hsu : ∀ (a : Addr) (oe : Obj) (cls : Value) (d : Option Addr) (pn : List (Addr × Obj)), PSs (X.suite a ((a, oe) :: pn)) (b₀ :: suite) (ts a cls d))
    (d1 : (x1 == ("__debug__" : Str)) = false := by decide) (d2 : (x2 == ("__debug__" : Str)) = false := by decide) (d3 : (x3 == ("__debug__" : Str)) = false := by decide) :
    PS X (.Try body [.ExceptHandler (some (.Tuple [.Name x1 q1, .Name x2 q2, .Name x3 q3] tx tp)) (some n) (b₀ :: suite) pos'] [] [] pos) (fun D σ H => tb (wKept X.K X.N.length [.ref c1, .ref c2, .ref c3] i ts D) D σ H) := by
  refine ⟨fun pins s σ H D I hq => ?_⟩
  have ok := I.ok
  have frm : X.A.frames = some (X.env :: X.outer) := by rw [ok.frames, hst]
  have lcl : Loc X.env.scope n := .inl hln
  refine wpAny_Try_except ?_
  refine wpAny_mono ((hb (wKept X.K X.N.length [.ref c1, .ref c2, .ref c3] i ts D) (X.pn ++ pins) (fun z s₁ => wpAny (model X.prog X.w) X.A (noteFrame z X.env) (fun _ s₂ => wpAny (model X.prog X.w) X.A (setFlight z none) (fun _ s₃ =>
    wpAny (model X.prog X.w) X.A (handleBy z X.env [.ExceptHandler (some (.Tuple [.Name x1 q1, .Name x2 q2, .Name x3 q3] tx tp)) (some n) (b₀ :: suite) pos']) (SP X pins D) X.xe s₃) X.xe s₂) X.xe s₁) (fun u s' xx => ?_)).run [] s σ H D (I.toTry _) hq) (fun fl s1 hsp => ?_) (fun z s1 hz => hz)
  · obtain ⟨a, B, sI, pins', σ', H', cls, d, rfl, J', nb, up, sky, na, os, ag, hm, hyes⟩ := xx
    have J : Inv X pins σ' H' sI := J'.ofTry ok
    have new0 := sky_new sky
    have sky' : Sky B (X.env :: X.outer) a (Zc cls d) X.env.locals s'.heap := by rw [← hst]; exact sky
    show wpAny (model X.prog X.w) X.A (noteFrame (.ref a) X.env) _ _ _
    refine Sky.land Zc.steady frm hf sky' fun h3 fl3 up3 => ?_
    have J3 : Inv X pins σ' H' { s' with heap := h3 } := J.landed nb fl3.1 (up.trans up3) os ag
    obtain ⟨oe3, vs3, he3, hz3, hd3⟩ := fl3.there
    have notF : ∀ {g : Heap} {o : Obj} {vs : Array Value}, g.FunFrames B (X.env :: X.outer) → g.get? a = some o → o.data = .fields vs → a ∉ frs (X.env :: X.outer) := fun {g o vs} ff e dd hmem => by
      obtain ⟨_, o', e', no⟩ := ff.mem hmem
      rw [e] at e'; cases e'
      exact no _ dd
    have nfr := notF fl3.2.2.1 he3 hd3
    have nL : a ≠ X.env.locals := fun zz => nfr (List.mem_filterMap.mpr ⟨X.env, List.mem_cons_self, by rw [hf, zz]⟩)
    have nF : a ∉ X.fs := fun hmem => by
      obtain ⟨en, he, q⟩ := List.mem_filterMap.mp hmem
      exact nfr (List.mem_filterMap.mpr ⟨en, List.mem_cons_of_mem _ he, q⟩)
    have newI : sI.heap.get? a = none := by
      cases hg : sI.heap.get? a with
      | none => rfl
      | some o =>
        have q := nb a o hg (by rw [hst]; exact nfr)
        rw [new0] at q
        cases q
    have new00 : a ∈ X.ex ∨ X.s_0.heap.get? a = none := by
      cases hg : X.s_0.heap.get? a with
      | none => exact .inr rfl
      | some o =>
        by_cases hx : a ∈ X.ex
        · exact .inl hx
        · obtain ⟨o', e'⟩ := J.base.there a o hg hx
          rw [newI] at e'
          cases e'
    have newp : ∀ p ∈ X.pn ++ pins, p.1 ≠ a := fun p m zz => by
      have := (J.pin p m).1
      rw [zz, newI] at this
      cases this
    have S3 := J3.suite he3 hd3 na nL nF
    refine wpAny_handleBy_cons (codeAny_handlers_test ?_) (by intro q; cases q)
    refine wpAny_Tuple_spliced ?_
    show wpAny _ _ (spliced [(false, eval (.Name x1 q1) X.env), (false, eval (.Name x2 q2) X.env), (false, eval (.Name x3 q3) X.env)]) _ _ _
    refine Calls.spliced_cons (ld_glob (X := X.suite a ((a, oe3) :: (X.pn ++ pins))) S3 g1 m1 ?_ d1)
    refine Calls.spliced_cons (ld_glob (X := X.suite a ((a, oe3) :: (X.pn ++ pins))) S3 g2 m2 ?_ d2)
    refine Calls.spliced_cons (ld_glob (X := X.suite a ((a, oe3) :: (X.pn ++ pins))) S3 g3 m3 ?_ d3)
    refine Calls.spliced_nil ⟨by show 3 ≤ sizeLine; decide, ?_⟩
    have kp : ∀ b o, h3.get? b = some o → (h3.push { cls := .type "tuple", data := .seq [Value.ref c1, .ref c2, .ref c3].toArray }).get? b = some o := fun b o q => Heap.get?_push_of_some _ q
    have htup : (h3.push { cls := .type "tuple", data := .seq [Value.ref c1, .ref c2, .ref c3].toArray }).get? h3.objs.size = some { cls := .type "tuple", data := .seq [Value.ref c1, .ref c2, .ref c3].toArray } := Heap.get?_push_size _ rfl
    show wpAny _ _ (excMatches (.ref a) (.ref h3.objs.size)) _ _ { s' with heap := h3.push { cls := .type "tuple", data := .seq [Value.ref c1, .ref c2, .ref c3].toArray } }
    generalize h3.push { cls := .type "tuple", data := .seq [Value.ref c1, .ref c2, .ref c3].toArray } = g3 at *
    have fl5 := flying_more fl3 kp
    have up5 : h3.UpToSlots g3 := fun b o q _ => ⟨o.slots, kp b o q⟩
    have LT : PySem.W.Looks (model X.prog X.w) g3 (typeOf (.ref a)) cls := fun A Q E st k q => wpAny_typeOf_ref (k _ _ (kp _ _ he3)) (by rw [hz3.1]; exact q)
    have LM := PySem.W.exm_tup3 (M := model X.prog X.w) (J3.kIn.keeps kp) LT htup hm
    refine LM.here ?_
    refine codeAny_handlers_suite_as ?_
    refine HandSPX.lands_againZ fl5 fun h4 fl4 up4 => ?_
    have J4 : Inv X pins σ' H' { s' with heap := h4 } := J.landed nb fl4.1 (((up.trans up3).trans up5).trans up4) os ag
    obtain ⟨oe4, vs4, he4, hz4, hd4⟩ := fl4.there
    have S4 := J4.suite he4 hd4 na nL nF
    refine store_ok (X := X.suite a ((a, oe4) :: (X.pn ++ pins))) (v := .ref a) S4 hN hi lcl rfl (fun s5 S5 => ?_) (.inr hln)
    refine wpAny_mono ((hsu a oe4 cls d (X.pn ++ pins)).run [] s5 _ H' _ S5 (hyes a na J.len)) (fun fl s6 hsp => ?_) (fun _ _ zz => False.elim zz)
    cases fl with
    | next =>
      obtain ⟨σ6, H6, S6, q6⟩ := hsp
      obtain ⟨p1, p2, p3⟩ := S6.pin (a, oe4) (List.mem_append_left _ List.mem_cons_self)
      have S7 := inv_caught (S6.unsuite ok) p2 new00 nL newp p1 hz4 hd4
      exact gone_ok S7 hN hi hln fun s7 J7 => ⟨_, _, J7, q6 p2⟩
    | brk =>
      obtain ⟨σ6, H6, S6, q6⟩ := hsp
      exact q6.elim
    | cont =>
      obtain ⟨σ6, H6, S6, q6⟩ := hsp
      exact q6.elim
    | ret u =>
      obtain ⟨v6, σ6, H6, S6, r6, q6⟩ := hsp
      exact q6.elim
  · cases fl with
    | next =>
      obtain ⟨σ', H', J', q⟩ := hsp
      exact wpAny_execs_nil ⟨σ', H', J'.ofTry ok, q⟩
    | brk =>
      obtain ⟨σ', H', J', q⟩ := hsp
      exact ⟨σ', H', J'.ofTry ok, q⟩
    | cont =>
      obtain ⟨σ', H', J', q⟩ := hsp
      exact ⟨σ', H', J'.ofTry ok, q⟩
    | ret u =>
      obtain ⟨v, σ', H', J', r, q⟩ := hsp
      exact ⟨v, σ', H', J'.ofTry ok, r, q⟩
end
/-- what a class of exceptions must say, so that its instances are asked and read rightly -/
structure ExcK (K : PySem.W.Frag) (C : Addr) : Prop where
  ga : PySem.W.findIn K (.ref C) "__getattribute__" = some (some (.builtin "BaseException.__getattribute__"))
  gt : PySem.W.findIn K (.ref C) "__getattr__" = some none
  sb : PySem.W.subIn K (.ref C) (.type "BaseException") = some true
  hd : PySem.W.hasDictIn K C = true
  ca : PySem.W.findIn K (.ref C) "__class__" = some (some (.builtin "object.__class__"))
  cg : PySem.W.specialIn K (.builtin "object.__class__") "__get__" = some (some (.builtin "getset_descriptor.__get__"))
  ct : PySem.W.takesIn K (.builtin "object.__class__") = some true
  mo : PySem.W.mroIn K C (.type "object") = some true
theorem exc_at {P : Program} {w : World} {H : Hp} {h : Heap} {a : Addr} {cls : Value} {d : Option Addr} (hok : HOk P w H h) (e : H a = some (exc a cls d)) : ∃ (oe : Obj) (fv : Array Value), h.get? a = some oe ∧ Zc cls d oe ∧ oe.data = .fields fv := by
  have x : ObjOk P w H h a (.ext fun g => ∃ (oe : Obj) (fv : Array Value), g.get? a = some oe ∧ Zc cls d oe ∧ oe.data = .fields fv) := hok a _ e
  exact x.1
/-- isinstance(e, c), e a caught exception of an own class -/
def rIsX (K : PySem.W.Frag) (D : Addr) : List V → Hp → VK → Prop := fun xs H Q => ∃ (a dd : Addr) (c : V) (cv : Value) (b : Bool) (fs : List (Str × V)), H a = some (exc a (.ref D) (some dd)) ∧ H dd = some (.xd fs) ∧ xs = [.ref a, c] ∧ (∀ u, RelV c u → u = cv) ∧ PySem.W.kitOne K (.ref D) cv = some b ∧ Q (.bl b) H
theorem call_isX {X : Cx} {D : Addr} (C : ExcK X.K D) : CallR X (.builtin "isinstance") (rIsX X.K D) := by
  intro pins s σ H xs us Q I r hq
  obtain ⟨a, dd, c, cv, b, fs, he, hdd, rfl, hcv, e, q⟩ := hq
  obtain ⟨u1, u2, rfl, r1, r2⟩ := vals2 r
  cases r1
  obtain rfl := hcv _ r2
  obtain ⟨oe, fv, g1, g2, g3⟩ := exc_at I.hok he
  obtain ⟨mA, hns, _⟩ : ObjOk X.prog X.w H s.heap dd (.xd fs) := I.hok dd _ hdd
  obtain ⟨od, ho, _⟩ := lookIn_ns hns
  have J : PySem.W.InstAt s.heap a oe D (some od) := ⟨g1, g2.1, by unfold PySem.W.notCls; rw [g3] <;> rfl, by rw [g2.2]; exact ho⟩
  obtain ⟨cd, hc, _⟩ := PySem.W.any_some C.hd
  exact PySem.W.kia_one (PySem.W.kitx_exc (by rw [hc]; rfl) C.ga C.gt C.sb C.ca C.cg C.ct C.mo) I.kIn J e (fun zz => nomatch zz) fun tk => ⟨.bl b, H, I.kept (t' := tk) fun _ _ zz => zz, rfl, q⟩
/-- e.n, e a caught exception of an own class -/
def tXk (D : Addr) (n : Str) (te : TE) : TE := fun σ H Q => te σ H fun x H1 => ∃ (a dd : Addr) (fs : List (Str × V)) (v : V), x = .ref a ∧ H1 a = some (exc a (.ref D) (some dd)) ∧ H1 dd = some (.xd fs) ∧ fs.lookup n = some v ∧ Q v H1
theorem pe_xk {X : Cx} {D : Addr} {e : Expr} {te : TE} {pos : Pos} {n : Str} (C : ExcK X.K D) (no : PySem.W.findIn X.K (.ref D) n = some none) (he : PE X e te) (hb : attributeBase e n X.env (eval e X.env) = eval e X.env := by rfl) : PE X (.Attribute e n pos) (tXk D n te) := by
  refine ⟨fun pins s σ H Q I hq => ?_⟩
  refine attr_of hb (thn (he.run pins s σ H _ I hq) fun u s1 hh => ?_)
  obtain ⟨x, H1, I1, rx, a, dd, fs, v, rfl, ha, hdd, l, q⟩ := hh
  cases rx
  obtain ⟨oe, fv, g1, g2, g3⟩ := exc_at I1.hok ha
  obtain ⟨mA, hns, hr⟩ : ObjOk X.prog X.w H1 s1.heap dd (.xd fs) := I1.hok dd _ hdd
  obtain ⟨od, ho, hl⟩ := lookIn_ns hns
  obtain ⟨u, hu, ru⟩ := RelO.some_of (v := v) (o := mA n) (by rw [← l]; exact hr n)
  have J : PySem.W.InstAt s1.heap a oe D (some od) := ⟨g1, g2.1, by unfold PySem.W.notCls; rw [g3] <;> rfl, by rw [g2.2]; exact ho⟩
  exact HandSPX.exc_get I1.kIn J C.ga C.gt C.sb (PySem.W.findObj_own C.hd no rfl (by rw [hl, hu])) (handed_of ru) ⟨v, H1, I1.tok _, ru, q⟩
end Lw
/-! Defs that ask repr of lists and tuples: what is known of the repr calls under way (none) goes from call to call. -/
namespace Lw
open PySem PySem.Spec PyProof.Rows L2 Evl LamX
/-- as FnOk, where no repr is under way -/
structure FnG (P : Program) (w : World) (K : PySem.W.Frag) (mg : Str → Option Value) (base : Heap) (CX : CXT) (k : Nat) (f : Addr) (fd : FuncData) (ps : List Str) (sp : Sp) : Prop where
  len : ∀ vs H Q E, sp vs H Q E → vs.length = ps.length
  run : ∀ (A : Around) (outer : List Env) (s : Shared) (H : Hp) (args : Args) (us : List Value) (vs : List V) (Q : VK) (E : XK), A.guards = some [] → Room k A → Env0 P w K mg base A outer s H → BindsTo s fd args (ps.zip us) →
    Vals vs us → sp vs H Q E → codeAny (model P w) A (.call (.ref f) args) (CR CX outer P w H s Q E) s
structure ClG (P : Program) (w : World) (K : PySem.W.Frag) (mg : Str → Option Value) (base : Heap) (CX : CXT) (k : Nat) (x : Str) (st : Stmt) (ps : List Str) (sp : Sp) : Prop where
  ex : ∃ (f : Addr) (fd : FuncData), Fun K x x st f fd ∧ FnG P w K mg base CX k f fd ps sp ∧ mg x = some (.ref f)
section
variable {P : Program} {w : World} {K : PySem.W.Frag} {mg : Str → Option Value} {base : Heap} {k : Nat} {x : Str} {st : Stmt} {ps N : List Str} {sp : Sp} {CX : CXT}
theorem clG_of (D : DefAt K mg x st) (S : FnScope N ps (defScope st)) (len : ∀ vs H Q E, sp vs H Q E → vs.length = ps.length)
    (hbody : ∀ (f : Addr) (cdv : Value) (A : Around) (outer : List Env) (s : Shared) (H : Hp) (vs : List V) (Q : VK) (E : XK), A.guards = some [] → Room k (A.deeper (envOfC x (defScope st) s.heap.objs.size f cdv)) → sp vs H Q E →
      ∃ t, PSs (cxOf CX0 P w K mg base N x (defScope st) f cdv A outer s H E).nox (defBody st) t ∧ t { nx := fun _ H' => Q .non H', rt := Q } (start N vs) H) : ClG P w K mg base CX0 (k + 1) x st ps sp := by
  obtain ⟨f, fd, F, m⟩ := D.ex
  refine ⟨f, fd, F, ?_, m⟩
  obtain ⟨oc, od, kV, doc, pm, an, cdv, ct, osl, rfl, lk, hcd⟩ := F.ex
  refine ⟨len, fun A outer s H args us vs Q E gd hr e0 hb r hs => run_ofS lk hcd S hr e0 hb r (len _ _ _ _ hs) fun hr' => ?_⟩
  obtain ⟨t, h, q⟩ := hbody f cdv A outer s H vs Q E gd hr' hs
  exact ⟨t, h.nox, q⟩
theorem ClG.at {f : Addr} {fd : FuncData} (c : ClG P w K mg base CX k x st ps sp) (F : Fun K x x st f fd) (m : mg x = some (.ref f)) : FnG P w K mg base CX k f fd ps sp := by
  obtain ⟨f', fd', F', o, m'⟩ := c.ex
  rw [m] at m'
  cases m'
  obtain ⟨oc, od, kV, doc, pm, an, cdv, ct, osl, rfl, lk, _⟩ := F.ex
  obtain ⟨oc', od', kV', doc', pm', an', cdv', ct', osl', rfl, lk', _⟩ := F'.ex
  have e := Option.some.inj (lk.symm.trans lk')
  injection e with _ _ e _
  injection e with e
  rw [e]
  exact o
end
section
variable {X : Cx} {CX : CXT} {k j : Nat} {x : Str} {st : Stmt} {sp : Sp} {ps : List Str} {p pos : Pos} {e : Expr} {es : List Expr} {t : TA} {E : XK}
/-- f(a, ..), no repr under way -/
theorem pe_clG (c : ClG X.prog X.w X.K X.mg X.base CX k x st ps sp) (b : Bnd x st ps) (gd : X.A.guards = some []) (hr : Room j X.A) (hk : k ≤ j) (hg : Gl X x) (hx : Passes CX X E) (ha : PA X (e :: es) t)
    (hdb : (x == ("__debug__" : Str)) = false := by decide) (he : starEach (e :: es) X.env = (false, eval e X.env) :: starEach es X.env := by rfl) (hpl : (backTo pos (starEach es X.env)).any (·.1) = false := by rfl) :
    PE X (.Call (.Name x p) (e :: es) [] pos) (tCall sp [] E t) := by
  obtain ⟨f, fd, F, o, m⟩ := c.ex
  refine ⟨fun pins s σ H Q I hq => wpAny_Call_Name_kw (ld_glob I hg m (PySem.W.callWith_K (h₀ := X.base) I.ok.mod.kin F.kp (thn (ha.run pos pins s σ H _ I hq) fun us s1 hh => ?_) he hpl) hdb)⟩
  obtain ⟨vs, H1, J, r, q⟩ := hh
  refine ⟨J.kIn, ?_⟩
  rw [List.append_nil] at q
  have hl : us.length = ps.length := r.length.symm.trans (o.len _ _ _ _ q)
  have bt : BindsTo s1 fd ⟨us, []⟩ (ps.zip us) := by
    have z := F.binds b s1 us J.kIn (by rw [List.append_nil]; exact hl)
    rwa [List.append_nil] at z
  refine wpAny_call (codeAny_mono (o.run X.A X.stack s1 H1 ⟨us, []⟩ us vs Q E gd (hr.mono hk) J.env0 bt r q) fun res s2 hq2 => ?_)
  cases res with
  | error er => exact hx pins σ H1 s1 er s2 J hq2
  | ok fl =>
    cases fl with
    | ret u => exact J.after hq2
    | next => exact hq2.elim
    | brk => exact hq2.elim
    | cont => exact hq2.elim
/-! ### repr -/
/-- data whose text is asked: what Dp tells, and the empty dict -/
inductive Dd (K : PySem.W.Frag) (H : Hp) : V → PyData → Prop
  | dp {v : V} {d : PyData} : Dp K H v d → SeqAt.shaped d = true → Dd K H v d
  | emp {a : Addr} : H a = some (.dK []) → Dd K H (.ref a) (.dict [])
  | kv {a : Addr} {ps : List (Int × Int)} : H a = some (.dK (kvI ps)) → Dd K H (.ref a) (.dict (ps.map fun p => (.int p.1, .int p.2)))
def Shows (d : PyData) : Prop := d.showable = true ∧ d.shown.length ≤ sizeLine ∧ PyData.strOk d.shown = true
theorem reads_kv {P : Program} {w : World} {h : Heap} : ∀ {es : List DictEntry} {vs : List (Key × Value)} {kvs : List (Key × V)} {ps : List (Int × Int)}, Pairs (mixKind P w) es vs → KV kvs vs → kvs = kvI ps →
    ReadsAll h (es.map (·.key)) ((ps.map fun p => ((.int p.1, .int p.2) : PyData × PyData)).map (·.1)) [] ∧ ReadsAll h (es.map (·.val)) ((ps.map fun p => ((.int p.1, .int p.2) : PyData × PyData)).map (·.2)) []
  | _, _, _, [], .nil, .nil, _ => ⟨.nil, .nil⟩
  | _, _, _, _ :: _, .nil, .nil, hk => by cases hk
  | _, _, _, [], .cons .., .cons .., hk => by cases hk
  | e :: _, _, _, p :: ps, .cons h1 h2 t, .cons r1 r2, hk => by
    cases hk
    obtain ⟨i1, i2⟩ := reads_kv (h := h) t r2 rfl
    obtain ⟨r1, r3⟩ := r1
    rcases keyIs_shape (show keyIs _ _ = true from h1) with ⟨i, tk, ek, ev⟩ | ⟨z, tk, ek, ev⟩
    · rw [← r1] at ek
      cases ek
      obtain ⟨t2, e2⟩ : ∃ t2, e.val = .int p.2 t2 := by
        rw [h2]
        exact r3
      refine ⟨?_, ?_⟩
      · show ReadsAll h (e.key :: _) (.int p.1 :: _) []
        rw [ev]
        exact .cons (as := []) (.int _ _) i1
      · show ReadsAll h (e.val :: _) (.int p.2 :: _) []
        rw [e2]
        exact .cons (as := []) (.int _ _) i2
    · rw [← r1] at ek
      cases ek
/-- repr(x), no repr under way -/
theorem call_reprD (gd : X.A.guards = some []) (hu : X.A.units + 70 < cLine) : CallR X (.builtin "repr") (fun xs H Q => ∃ v d, Dd X.K H v d ∧ Shows d ∧ xs = [v] ∧ Q (.str d.shown) H) := by
  intro pins s σ H xs us Q I r hq
  obtain ⟨v, d, hd, ⟨hs, hz, _⟩, rfl, q⟩ := hq
  obtain ⟨u, rfl, ru⟩ := vals1 r
  cases hd with
  | dp hd sh =>
    obtain ⟨as, rd⟩ := hd.reads I d _ u ru
    have lay := SeqAt.canLay_of_shaped sh
    have dep : d.depth ≤ 64 := by
      unfold SeqAt.shaped at sh
      rw [Bool.and_eq_true, decide_eq_true_eq] at sh
      exact sh.2
    cases rd with
    | none => exact PySem.P.repr_of_none ⟨.str _, H, I.tok _, ⟨_, rfl⟩, q⟩
    | bool b => exact PySem.P.repr_of_bool ⟨.str _, H, I.tok _, ⟨_, rfl⟩, q⟩
    | int i tk => exact PySem.P.repr_of_int (of_decide_eq_true hs) ⟨.str _, H, I.tok _, ⟨_, rfl⟩, q⟩
    | str y tk => exact PySem.P.repr_of_str ⟨.str _, H, I.tok _, ⟨_, rfl⟩, q⟩ hz
    | list g1 g2 g3 g4 =>
      refine PySem.repr_of_reads' (.list g1 g2 g3 g4) hs (PyData.noDict_hsm (PyData.hasDict_of_canLay _ lay)) gd (by omega) (fun _ _ zz => zz) (fun h' u' tk kp => ?_) hz
      exact ⟨.str _, H, I.kept (t' := tk) kp, ⟨_, rfl⟩, q⟩
    | tuple g1 g2 g3 g4 =>
      refine PySem.repr_of_reads' (.tuple g1 g2 g3 g4) hs (PyData.noDict_hsm (PyData.hasDict_of_canLay _ lay)) gd (by omega) (fun _ _ zz => zz) (fun h' u' tk kp => ?_) hz
      exact ⟨.str _, H, I.kept (t' := tk) kp, ⟨_, rfl⟩, q⟩
    | dict g1 g2 g3 g4 g5 => cases hd
  | emp ha =>
    cases ru
    obtain ⟨_, hm, vs, rel, o, es, ep, ho, hc, hdat, hks, hps, hnd⟩ := dk_of I.hok ha
    cases rel
    have e0 : es.toList = [] := List.length_eq_zero_iff.mp hps.length
    refine PySem.repr_of_reads' (d := .dict []) (.dict ho hc.1 hdat (by rw [e0]; exact .nil) (by rw [e0]; exact .nil)) hs (fun _ zz => ?_) gd (by show X.A.units + ((PyData.depthKv [] + 1) + 1) < cLine; rw [PyData.depthKv]; omega) (fun _ _ zz => zz) (fun h' u' tk kp => ?_) hz
    · have ne : _ ≠ sysModules := beq_eq_false_iff_ne.mp hm
      simp at zz
      exact ne zz.symm
    · exact ⟨.str _, H, I.kept (t' := tk) kp, ⟨_, rfl⟩, q⟩
  | kv ha =>
    cases ru
    obtain ⟨_, hm, vs, rel, o, es, ep, ho, hc, hdat, hks, hps, hnd⟩ := dk_of I.hok ha
    obtain ⟨k1, k2⟩ := reads_kv (h := s.heap) hps rel rfl
    refine PySem.repr_of_reads' (.dict ho hc.1 hdat k1 k2) hs (fun _ zz => ?_) gd (by
      have : ∀ ps : List (Int × Int), PyData.depthKv (ps.map fun p => ((.int p.1, .int p.2) : PyData × PyData)) ≤ 1 := fun ps => by
        induction ps with
        | nil => simp [PyData.depthKv]
        | cons p ps ih =>
          rw [List.map_cons, PyData.depthKv]
          simp only [PyData.depth]
          omega
      rw [PyData.depth]
      have := this ‹_›
      omega) (fun _ _ zz => zz) (fun h' u' tk kp => ?_) hz
    · have ne : _ ≠ sysModules := beq_eq_false_iff_ne.mp hm
      simp at zz
      exact ne zz.symm
    · exact ⟨.str _, H, I.kept (t' := tk) kp, ⟨_, rfl⟩, q⟩
end
end Lw
/-! The end of a law whose promise knows that no repr is under way (FnG), with the tables of the lambdas' makers. -/
namespace Lw
open PySem PySem.Spec PyProof.Rows L2 Evl LamX
/-- a list of ints of this kind as an object -/
abbrev scriptO (us : List Value) : Obj := { cls := .type "list", data := .seq us.toArray }
abbrev noCodes : Obj := { cls := .none, data := .fields #[] }
section
variable {P : Program} {w : World} {K : PySem.W.Frag} {mg mb : Str → Option Value} {CX : CXT} {k : Nat} {fa a : Addr} {cs : List (Addr × Addr)} {fd : FuncData} {x : Str} {sp : Sp} {st : Shared} {us : List Value} {ns : List Int}
/-- what is tracked at the start: the tables, and the script where the written part does not hold it -/
def startH (K : PySem.W.Frag) (ts : List Addr) (a : Addr) (us : List Value) (ns : List Int) : Hp := fun b =>
  if b ∈ ts then some (.tbl #[]) else if b = a ∧ (K.lookup a).isNone = true then some (.frz (scriptO us) (.lst (ns.map V.int))) else none
theorem startH_t {ts : List Addr} {b : Addr} (m : b ∈ ts) : startH K ts a us ns b = some (.tbl #[]) := if_pos m
theorem startH_inv {ts : List Addr} {b : Addr} {u : HO} (e : startH K ts a us ns b = some u) : (b ∈ ts ∧ u = .tbl #[]) ∨ (b ∉ ts ∧ b = a ∧ K.lookup a = none ∧ u = .frz (scriptO us) (.lst (ns.map V.int))) := by
  unfold startH at e
  by_cases m : b ∈ ts
  · rw [if_pos m] at e
    exact .inl ⟨m, (Option.some.inj e).symm⟩
  · rw [if_neg m] at e
    by_cases c : b = a ∧ (K.lookup a).isNone = true
    · rw [if_pos c] at e
      exact .inr ⟨m, c.1, Option.isNone_iff_eq_none.mp c.2, (Option.some.inj e).symm⟩
    · rw [if_neg c] at e
      cases e
theorem startH_not {ts : List Addr} {b : Addr} (h1 : b ∉ ts) (h2 : b = a → K.lookup a ≠ none) : startH K ts a us ns b = none := by
  cases e : startH K ts a us ns b with
  | none => rfl
  | some u =>
    rcases startH_inv e with ⟨m, _⟩ | ⟨_, e1, e2, _⟩
    · exact absurd m h1
    · exact absurd e2 (h2 e1)
theorem law_gd (KX : K.In st.heap) (hns : st.heap.Ns mainGlobals mg) (hb : st.heap.Ns builtinsNs mb) (hbb : ∀ y : Str, y ≠ "__name__" → mb y = bootBuiltins y) (hlim : st.heap.NoLimit) (hg : st.gens = #[])
    (hT : ∀ p ∈ cs, st.heap.get? p.2 = some noCodes) (nT : ∀ p ∈ cs, K.lookup p.2 = none) (C : ∀ p ∈ cs, PySem.W.CodeHd st.heap p.1 p.2)
    (hbm : ∃ (bm : Addr) (ob : Obj), mg "__builtins__" = some (.ref bm) ∧ bm ≠ builtinsNs ∧ st.heap.get? bm = some ob ∧ ob.cls = .type "module" ∧ ob.dict = some builtinsNs ∧ ob.data = .plain)
    (ha : st.heap.get? a = some (scriptO us)) (hi : IntsAre us ns) (hl : ns.length ≤ sizeLine) (room : Room k callerA)
    (F : ∀ base : Heap, K.In base → base.Ns mainGlobals mg → (∀ p ∈ cs, TabB base mg p.1 p.2) → FnG P w K mg base CX k fa fd [x] sp) (hbind : ∀ (s : Shared) (u : Value), BindsTo s fd ⟨[u], []⟩ [(x, u)])
    (hsp : ∀ H : Hp, (∀ p ∈ cs, H p.2 = some (.tbl #[])) → SqL K H a (ns.map V.int) → sp [.ref a] H (fun v _ => v = .bl true) fun _ _ _ => False)
    (hCX : ∀ H e s', CX [] H st (fun _ _ _ => False) e s' → False) :
    codeAny (model P w) callerA (.call (.ref fa) ⟨[.ref a], []⟩) (fun r z => r = .ok (.ret (.bool true)) ∧ OldK st.heap z.heap ∧ z.os = st.os ∧ AllBare z.gens) st := by
  obtain ⟨ts, ets⟩ : ∃ ts : List Addr, ts = cs.map (·.2) := ⟨_, rfl⟩
  have inT : ∀ p ∈ cs, p.2 ∈ ts := fun p m => by rw [ets]; exact List.mem_map.mpr ⟨p, m, rfl⟩
  have ofT : ∀ b ∈ ts, ∃ p ∈ cs, p.2 = b := fun b m => by
    rw [ets] at m
    obtain ⟨p, q, e⟩ := List.mem_map.mp m
    exact ⟨p, q, e⟩
  have atT : ∀ b ∈ ts, st.heap.get? b = some noCodes := fun b m => by
    obtain ⟨p, q, e⟩ := ofT b m
    rw [← e]
    exact hT p q
  have aT : a ∉ ts := fun m => by
    have q := atT a m
    rw [ha] at q
    have q' := congrArg Obj.cls (Option.some.inj q)
    cases q'
  obtain ⟨H, eH⟩ : ∃ H : Hp, H = startH K ts a us ns := ⟨_, rfl⟩
  have inv : ∀ {b u}, H b = some u → (b ∈ ts ∧ u = .tbl #[]) ∨ (b ∉ ts ∧ b = a ∧ K.lookup a = none ∧ u = .frz (scriptO us) (.lst (ns.map V.int))) := fun {b u} e => startH_inv (by rw [eH] at e; exact e)
  have tab : ∀ b ∈ ts, H b = some (.tbl #[]) := fun b m => by rw [eH]; exact startH_t m
  have lenU : us.length = ns.length := hi.length
  have rel := vals_ints hi
  have free : ∀ {b : Addr} {o : Obj}, st.heap.get? b = some o → o.cls ≠ .type "list" → o.cls ≠ .none → H b = none := fun {b o} e n1 n2 => by
    cases q : H b with
    | none => rfl
    | some u =>
      rcases inv q with ⟨m, _⟩ | ⟨_, e1, _, _⟩
      · rw [atT b m] at e
        cases e
        exact absurd rfl n2
      · rw [e1, ha] at e
        cases e
        exact absurd rfl n1
  have freeD : ∀ {b : Addr} {o : Obj}, st.heap.get? b = some o → (∀ zs n, o.data ≠ .seq zs n) → o.data ≠ .fields #[] → H b = none := fun {b o} e n1 n2 => by
    cases q : H b with
    | none => rfl
    | some u =>
      rcases inv q with ⟨m, _⟩ | ⟨_, e1, _, _⟩
      · rw [atT b m] at e
        cases e
        exact absurd rfl n2
      · rw [e1, ha] at e
        cases e
        exact absurd rfl (n1 _ _)
  have up : ∀ {b : Addr} {o : Obj}, st.heap.get? b = some o → H b = none → (hidT st.heap H).get? b = some o := fun e n => hidT_get e n
  have dict : ∀ {b : Addr} {m : Str → Option Value}, st.heap.Ns b m → (hidT st.heap H).Ns b m := fun {b m} ⟨o, es, ep, e, d, r⟩ =>
    ⟨o, es, ep, up e (freeD e (fun zs n z => by rw [d] at z; cases z) fun z => by rw [d] at z; cases z), d, r⟩
  have kin : K.In (hidT st.heap H) := fun b o e => up (KX b o e) (by
    cases q : H b with
    | none => rfl
    | some u =>
      rcases inv q with ⟨m, _⟩ | ⟨_, e1, e2, _⟩
      · obtain ⟨p, pm, ep⟩ := ofT b m
        rw [← ep, nT p pm] at e
        cases e
      · rw [e1, e2] at e
        cases e)
  have mod : L2.Mod K mg (hidT st.heap H) := ⟨kin, dict hns, ⟨mb, dict hb, hbb⟩, let ⟨mc, l1, l2⟩ := hlim; ⟨mc, dict l1, l2⟩⟩
  have hok : HOk P w H st.heap := fun b u e => by
    rcases inv e with ⟨m, rfl⟩ | ⟨_, rfl, _, rfl⟩
    · exact atT b m
    · exact ⟨ha, by rw [List.length_map]; exact hl, us, _, rel, ha⟩
  have seq : SqL K H a (ns.map V.int) := by
    cases hk : K.lookup a with
    | some o =>
      have e := KX a o hk
      rw [ha] at e
      cases e
      exact .inr ⟨_, us.toArray, _, hk, rfl, rfl, rfl, by rw [List.size_toArray, lenU]; exact hl, by simpa using rel⟩
    | none => exact .inl (.inr ⟨scriptO us, by rw [eH]; unfold startH; rw [if_neg aT, if_pos ⟨rfl, by rw [hk]; rfl⟩]⟩)
  have tabs : ∀ p ∈ cs, TabB (hidT st.heap H) mg p.1 p.2 := fun p pm => by
    have hTp := hT p pm
    refine ⟨?_, ?_, fun z => ?_⟩
    · obtain ⟨o, vs, f1, f2, f3, f4, f5, f6, f7, e1, r1, r2, r3, rest⟩ := C p pm
      exact ⟨o, vs, f1, f2, f3, f4, f5, f6, f7, up e1 (free e1 (by rw [r1]; simp) (by rw [r1]; simp)), r1, r2, r3, rest⟩
    · obtain ⟨bm, ob, b1, b2, b3, b4, b5, b6⟩ := hbm
      refine ⟨bm, ob, b1, b2, fun z => ?_, fun z => ?_, up b3 (free b3 (by rw [b4]; simp) (by rw [b4]; simp)), b4, b5, b6⟩
      · obtain ⟨o, es, ep, e, hd, _⟩ := hns
        rw [z, e] at b3
        cases b3
        rw [hd] at b6
        cases b6
      · rw [z, hTp] at b3
        cases b3
        cases b6
    · obtain ⟨o, es, ep, e, hd, _⟩ := hns
      rw [z, hTp] at e
      cases e
      cases hd
  have env : Env0 P w K mg (hidT st.heap H) callerA [] st H := ⟨rfl, mod, fun b o e => of_hidT e, Nat.le_of_eq (hidT_size _ _), trivial, fun b m => (List.not_mem_nil m).elim, hok, .of_eq hg⟩
  refine codeAny_mono ((F _ kin (dict hns) tabs).run callerA [] st H ⟨[.ref a], []⟩ [.ref a] [.ref a] _ _ rfl room env (hbind st (.ref a)) (.cons rfl .nil) (hsp H (fun p pm => tab _ (inT p pm)) seq)) fun res z hz => ?_
  cases res with
  | error er => exact (hCX H er z hz).elim
  | ok fl =>
    cases fl with
    | next => exact hz.elim
    | brk => exact hz.elim
    | cont => exact hz.elim
    | ret u =>
      obtain ⟨v, H', o1, o2, un, hok', ru, q⟩ := hz
      obtain rfl : v = .bl true := q
      obtain rfl : u = Value.bool true := ru
      have held : ∀ b o, b ∉ ts → st.heap.get? b = some o → z.heap.get? b = some o := fun b o n e => by
        cases q : H b with
        | none => exact un.keep b o e q (fun m => (List.not_mem_nil m).elim) (fun m => (List.not_mem_nil m).elim)
        | some u =>
          rcases inv q with ⟨m, _⟩ | ⟨_, e1, e2, rfl⟩
          · exact absurd m n
          · have e3 := (hok' b _ (un.frzs b _ _ q)).1
            rw [e1, ha] at e
            cases e
            rw [e1] at e3 ⊢
            exact e3
      have more : ∀ b ∈ ts, ∃ zs : Array Value, z.heap.get? b = some { cls := .none, data := .fields zs } := fun b m => by
        obtain ⟨zs, e⟩ := un.tbls b #[] (tab b m)
        exact ⟨_, hok' b _ e⟩
      refine ⟨rfl, ⟨fun b o e => ?_, fun b o e => ?_⟩, o1, o2⟩
      · by_cases m : b ∈ ts
        · obtain ⟨p, pm, rfl⟩ := ofT b m
          obtain ⟨zs, e2⟩ := more _ m
          rw [hT p pm] at e
          cases e
          exact .inr (.inl ⟨((C p pm).tab (hT p pm)).isCodeTable, rfl, #[], zs, rfl, by rw [Array.empty_append]; exact e2⟩)
        · exact .inl (held b o m e)
      · by_cases m : b ∈ ts
        · obtain ⟨zs, e2⟩ := more b m
          exact ⟨_, e2⟩
        · exact ⟨o, held b o m e⟩
end
/-- the law's promise, at the head's heap h -/
def LawG (l : PySem.W.OpenLaw) (w : World) (K : PySem.W.Frag) (CX : CXT) (k n : Nat) (x : Str) (mg : Str → Option Value) (fa : Addr) (h : Heap) : Prop :=
  ∃ (fd : FuncData) (cs : List (Addr × Addr)) (sp : Sp), (∀ p ∈ cs, h.get? p.2 = some noCodes) ∧ (∀ p ∈ cs, K.lookup p.2 = none) ∧ (∀ p ∈ cs, PySem.W.CodeHd h p.1 p.2) ∧ (∀ (s : Shared) (u : Value), BindsTo s fd ⟨[u], []⟩ [(x, u)]) ∧
    (∀ (H : Hp) (a : Addr) (ns : List Int), ns.length ≤ n → (∀ p ∈ cs, H p.2 = some (.tbl #[])) → SqL K H a (ns.map V.int) → sp [.ref a] H (fun v _ => v = .bl true) fun _ _ _ => False) ∧
    ∀ base : Heap, K.In base → base.Ns mainGlobals mg → (∀ p ∈ cs, TabB base mg p.1 p.2) → FnG l.prog w K mg base CX k fa fd [x] sp
theorem walk_gd {l : PySem.W.OpenLaw} {n k : Nat} {q : Program} {lo : List Str} {XQ : (Str → Option Value) → Heap → Prop} {YQ : World → Heap → Prop} {d : DefRec} {K : Params → PySem.W.Frag} {CX : World → CXT} {x : Str}
    (m1 : l.most = some n) (m2 : n ≤ sizeLine) (df : d.params.defaults = []) (room : Room k callerA) (hY : ∀ (w : World) (h : Heap), YQ w h → (K w.params).In h)
    (F : ∀ (w : World) (mg : Str → Option Value) (fa : Addr) (h : Heap), YQ w h → (K w.params).In h → h.Ns mainGlobals mg → mg d.name = some (.ref fa) → LawG l w (K w.params) (CX w) k n x mg fa h)
    (hCX : ∀ (w : World) (H : Hp) (s : Shared) (e : Value) (s' : Shared), CX w [] H s (fun _ _ _ => False) e s' → False) : PySem.W.WalkO q lo XQ YQ l.row.toRowW d [] (fun f vs => PySem.call f vs) := by
  refine Att.attach_callB m1 df fun w s₀ s₁ mg mb fa o pm cd doc a vs ns G Y ho hd hcd hmg obj itsI len bits gens => ?_
  have KX := hY w _ Y
  obtain ⟨fd, cs, sp, t1, t2, t3, hb, hs, hF⟩ := F w mg fa _ Y KX G.T.g hmg
  exact law_gd KX G.T.g G.T.b G.T.builtins G.T.nolimit gens t1 t2 t3 G.T.bmain obj itsI (Nat.le_trans len m2) room hF hb (fun H c S => hs H a ns len c S) fun H e z => hCX w H s₁ e z
/-! ### defs that make lambdas -/
/-- a def of the text, its code object at c -/
structure DefC (K : PySem.W.Frag) (mg : Str → Option Value) (x : Str) (st : Stmt) (c : Addr) : Prop where
  ex : ∃ (f : Addr) (oc : Value) (od an : Option Addr) (osl : Array (Option Value)) (kV doc pm ct : Value), K.lookup f = some ⟨oc, od, .func (PySem.W.fnOf x x (defArgs st) (defBody st) (defScope st) .none kV doc pm an (.ref c) ct), osl⟩ ∧
    PySem.W.codeIn K (.ref c) x = true ∧ PySem.W.keepIn K (.ref f) = true ∧ mg x = some (.ref f)
theorem defC_mk {K : PySem.W.Frag} {mg : Str → Option Value} {x : Str} {st : Stmt} {h : Heap} {f c : Addr} {oc : Value} {od an : Option Addr} {osl : Array (Option Value)} {kV doc pm ct : Value} (X : K.In h) (G : h.Ns mainGlobals mg)
    (a : PySem.W.nsIn K mainGlobals x = some (some (.ref f))) (l : K.lookup f = some ⟨oc, od, .func (PySem.W.fnOf x x (defArgs st) (defBody st) (defScope st) .none kV doc pm an (.ref c) ct), osl⟩) (ci : PySem.W.codeIn K (.ref c) x = true)
    (kp : PySem.W.keepIn K (.ref f) = true) : DefC K mg x st c := ⟨f, oc, od, an, osl, kV, doc, pm, ct, l, ci, kp, PySem.W.mg_of X G a⟩
theorem clC_of {P : Program} {w : World} {K : PySem.W.Frag} {mg : Str → Option Value} {base : Heap} {k : Nat} {x : Str} {st : Stmt} {ps N : List Str} {sp : Sp} {c : Addr} (D : DefC K mg x st c) (S : FnScope N ps (defScope st)) (len : ∀ vs H Q E, sp vs H Q E → vs.length = ps.length)
    (hbody : ∀ (f : Addr) (A : Around) (outer : List Env) (s : Shared) (H : Hp) (vs : List V) (Q : VK) (E : XK), A.guards = some [] → Room k (A.deeper (envOfC x (defScope st) s.heap.objs.size f (.ref c))) → sp vs H Q E →
      ∃ t, PSs (cxOf CX0 P w K mg base N x (defScope st) f (.ref c) A outer s H E).nox (defBody st) t ∧ t { nx := fun _ H' => Q .non H', rt := Q } (start N vs) H) : ClG P w K mg base CX0 (k + 1) x st ps sp := by
  obtain ⟨f, oc, od, an, osl, kV, doc, pm, ct, lk, hcd, kp, m⟩ := D.ex
  refine ⟨f, _, fun_mk lk hcd kp, ⟨len, fun A outer s H args us vs Q E gd hr e0 hb r hs => run_ofS lk hcd S hr e0 hb r (len _ _ _ _ hs) fun hr' => ?_⟩, m⟩
  obtain ⟨t, h, q⟩ := hbody f A outer s H vs Q E gd hr' hs
  exact ⟨t, h.nox, q⟩
theorem lawG_fd {K : PySem.W.Frag} {mg : Str → Option Value} {x p : Str} {st : Stmt} {fa : Addr} (D : DefAt K mg x st) (b : Bnd x st [p]) (hfa : mg x = some (.ref fa)) : ∃ fd, Fun K x x st fa fd ∧ ∀ (s : Shared) (u : Value), BindsTo s fd ⟨[u], []⟩ [(p, u)] := law_fd D b hfa
end Lw
/-! A def that is handed a lambda; what stays where tables of code objects grow. -/
namespace Lw
open PySem PySem.Spec PyProof.Rows L2 Evl LamX
theorem u70 {k : Nat} {A : Around} (hr : Room k A) : A.units + 70 < cLine := by
  have := hr.un
  omega
section
variable {X : Cx}
/-- x(lambda: body), x a def of the text with one parameter -/
theorem pe_lamc {TT : (XK → Hp → VK → Prop) → Hp → VK → Prop} {x a : Str} {st : Stmt} {c P : Addr} {k : Nat} {Ng : List Str} {params : Arguments} {body : Expr} {scope : Scope} {t : XK → TE} {p lpos pos : Pos} (D : DefAt X.K X.mg x st) (b : Bnd x st [a]) (hg : Gl X x)
    (Sg : FnScope Ng [a] (defScope st)) (hNg : Ng[0]? = some a) (hva : Vis (defScope st) a) (hG : ∀ g cdv, GivesTo X Ng x (defScope st) g cdv (defBody st) a (X.env.qual ++ "<lambda>") TT)
    (TB : TabB X.base X.mg c P) (hcode : X.env.code = .ref c) (hr : Room (k + 2) X.A) (L : LamS X.env.scope scope) (hdef : defaultsOf params X.env = ([], []))
    (hbind : ∀ (q : Str) (cl : List (Str × Addr)) (pm cv ctv : Value), bindArgs (PySem.W.kla_fn "<lambda>" q params body scope cl pm cv ctv) ⟨[], []⟩ = pure [])
    (hbody : ∀ (A : Around) (outer : List Env) (s : Shared) (H : Hp) (E : XK) (f c' : Addr), Room k (A.deeper (lamEnv X scope s.heap.objs.size f c')) → PE (lamCx X A outer s H E scope f c') body (t E))
    (d1 : (x == ("__debug__" : Str)) = false := by decide) (d2 : (a == ("__debug__" : Str)) = false := by decide) (d3 : (a == ("__classdict__" : Str)) = false := by decide) :
    PE X (.Call (.Name x p) [.Lambda params body scope lpos] [] pos) (tLam [(P, X.env.qual ++ "<lambda>")] TT t) := by
  obtain ⟨f, fd, F, m⟩ := D.ex
  have kp := F.kp
  have bs := F.binds b
  obtain ⟨oc, od, kV, doc, pm, an, cdv, ct, osl, rfl, lk, hcd⟩ := F.ex
  exact pe_lamcall hg m kp lk hcd bs Sg hNg hva (hG f cdv) TB hcode List.mem_cons_self (fun q hq _ => by
    obtain rfl : q = _ := by simpa using hq
    rfl) hr L hdef hbind hbody d1 d2 d3
end
/-! ### what stays, tables aside -/
theorem ExtN.ex {H H' : Hp} (e : Ex H H') : ExtN H H' := ExtN.of fun b o h => e b o h
section
variable {K : PySem.W.Frag} {H H' : Hp} {a : Addr} {v : V} {n : String}
theorem sqN_l {xs : List V} (e : ExtN H H') (h : SqL K H a xs) : SqL K H' a xs := by
  rcases h with (h | ⟨o, h⟩) | h
  · exact .inl (.inl (e _ _ h fun ps z => by cases z))
  · exact .inl (.inr ⟨o, e _ _ h fun ps z => by cases z⟩)
  · exact .inr h
theorem sqN_t {xs : List V} (e : ExtN H H') (h : SqT K H a xs) : SqT K H' a xs := by
  rcases h with (h | ⟨o, h⟩) | h
  · exact .inl (.inl (e _ _ h fun ps z => by cases z))
  · exact .inl (.inr ⟨o, e _ _ h fun ps z => by cases z⟩)
  · exact .inr h
theorem Pool.upN (e : ExtN H H') (h : Pool H a) : Pool H' a := e _ _ h fun ps z => by cases z
mutual
theorem dpN (e : ExtN H H') : ∀ {v : V} {d : PyData}, Dp K H v d → Dp K H' v d
  | _, _, .non => .non
  | _, _, .bl b => .bl b
  | _, _, .int i => .int i
  | _, _, .str y => .str y
  | _, _, .lst h t => .lst (sqN_l e h) (dpsN e t)
  | _, _, .tup h t => .tup (sqN_t e h) (dpsN e t)
theorem dpsN (e : ExtN H H') : ∀ {vs : List V} {ds : List PyData}, DpAll K H vs ds → DpAll K H' vs ds
  | _, _, .nil => .nil
  | _, _, .cons h t => .cons (dpN e h) (dpsN e t)
end
theorem Dd.upN {d : PyData} (e : ExtN H H') (h : Dd K H v d) : Dd K H' v d := by
  cases h with
  | dp h s => exact .dp (dpN e h) s
  | emp h => exact .emp (e _ _ h fun ps z => by cases z)
  | kv h => exact .kv (e _ _ h fun ps z => by cases z)
theorem Dd.up {d : PyData} (e : Ex H H') (h : Dd K H v d) : Dd K H' v d := h.upN (ExtN.ex e)
theorem Kd.upN (e : ExtN H H') (k : Kd H v n) : Kd H' v n := by
  cases k with
  | int i => exact .int i
  | bl b => exact .bl b
  | str s => exact .str s
  | non => exact .non
  | tup h => exact .tup (e _ _ h fun ps z => by cases z)
  | fz h => exact .fz (e _ _ h fun ps z => by cases z)
  | lst h => exact .lst (e _ _ h fun ps z => by cases z)
  | dK h => exact .dK (e _ _ h fun ps z => by cases z)
theorem Th.upN {b : Bool} (e : ExtN H H') (k : Th H v b) : Th H' v b := by
  cases k with
  | other k h => exact .other (k.upN e) h
  | tup h ks => exact .tup (e _ _ h fun ps z => by cases z) fun x hx => let ⟨n, k⟩ := ks x hx; ⟨n, k.upN e⟩
end
theorem extN_mut {H H' : Hp} {a : Addr} {o : HO} (e : ExtN H H') (n : H a = none) : ExtN H (upd H' a o) := fun b u h t => by
  rw [upd_ne (fun z => by rw [z, n] at h; cases h)]
  exact e b u h t
theorem tabs_mut {T : List (Addr × Str)} {H : Hp} {a : Addr} {xs ys : List V} (t : Tabs T H) (h : H a = some (.lst xs)) : Tabs T (upd H a (.lst ys)) := fun p hp => by
  obtain ⟨ps, h1, h2, h3⟩ := t p hp
  have ne : ∀ {b u}, H b = some u → u ≠ .lst xs → b ≠ a := fun {b u} q n z => by
    rw [z, h] at q
    exact n (Option.some.inj q).symm
  refine ⟨ps, by rw [upd_ne (ne h1 (by intro z; cases z))]; exact h1, h2, fun pos cv hc => ?_⟩
  obtain ⟨c, e1, e2⟩ := h3 pos cv hc
  exact ⟨c, e1, by rw [upd_ne (ne e2 (by unfold CodeO; intro z; cases z))]; exact e2⟩
section
variable {H1 : Hp} {D : Addr} {n : Nat} {g : TG} {tt : TT} {te : TE} {vs : List Nat} {σ : L2.St} {Qd : Hp → Prop}
/-- a list of truths, made over range(n), where tables may grow -/
theorem lcRT (T : List (Addr × Str)) (hD : H1 D = none) (hn : n ≤ 50000) (t0 : Tabs T H1)
    (hs : ∀ i, i < n → ∀ H, ExtN H1 H → Tabs T H → ∀ (Q1 : VK) (Q2 : Hp → Prop), (∀ H4, ExtN H H4 → Tabs T H4 → Q1 (.bl true) H4) → g (.int ((0 : Int) + i)) (wipe σ vs) H fun σ2 H2 => wipe σ2 vs = wipe σ vs ∧ tt σ2 H2 fun b H3 => if b = true then te σ2 H3 Q1 else Q2 H3)
    (hd : ∀ H', ExtN H1 H' → Tabs T H' → H' D = some (.lst ((List.replicate n true).map V.bl)) → Qd H') :
    ∃ W : Nat → Nat → Hp → Prop, (∃ m, W 0 m (upd H1 D (.lst []))) ∧ ∀ i m H, W i m H →
      ((Itr 0 n).stop i H ∧ Qd H) ∨ ((Itr 0 n).go i H ∧ ∃ Nx : Hp → Prop, (∀ H', Nx H' → ∃ m', m' < m ∧ W (i + 1) m' H') ∧ ∀ x H', (Itr 0 n).yld i H x H' → g x (wipe σ vs) H' fun σ2 H2 => wipe σ2 vs = wipe σ vs ∧ tt σ2 H2 fun b H3 =>
        if b = true then te σ2 H3 fun y H4 => ∃ acc, H4 D = some (.lst acc) ∧ acc.length < sizeLine ∧ Nx (upd H4 D (.lst (acc ++ [y]))) else Nx H3) := by
  refine lc_range (fun i H => ExtN H1 H ∧ Tabs T H ∧ H D = some (.lst ((List.replicate i true).map V.bl))) ⟨ExtN.ex (Ex.new hD), t0.ext (fun b o h => Ex.new hD b o h), upd_same⟩ (fun i H hi I => ?_) (fun H I => hd H I.1 I.2.1 I.2.2)
  obtain ⟨e, t, h⟩ := I
  refine hs i hi H e t _ _ fun H4 e4 t4 => ?_
  have h4 := e4 _ _ h (fun ps z => by cases z)
  refine ⟨_, h4, Nat.lt_of_lt_of_le (show _ < 60000 by rw [List.length_map, List.length_replicate]; omega) (Nat.le_trans (by decide) line_ge), extN_mut (e.trans e4) hD, tabs_mut t4 h4, ?_⟩
  rw [upd_same, List.replicate_succ', List.map_append]
  rfl
end
/-! ### classes of errors -/
/-- x is a class of errors that is caught by (A, B, C) -/
structure ErrAt (K : PySem.W.Frag) (mg : Str → Option Value) (x a b c : Str) : Prop where
  ex : ∃ C A B D : Addr, mg x = some (.ref C) ∧ mg a = some (.ref A) ∧ mg b = some (.ref B) ∧ mg c = some (.ref D) ∧ PySem.W.exmAny K (.ref C) [.ref A, .ref B, .ref D] = some true ∧ ExcK K C
theorem errAt_mk {K : PySem.W.Frag} {mg : Str → Option Value} {x a b c : Str} {h : Heap} {C A B D : Addr} (X : K.In h) (G : h.Ns mainGlobals mg) (n1 : PySem.W.nsIn K mainGlobals x = some (some (.ref C))) (n2 : PySem.W.nsIn K mainGlobals a = some (some (.ref A)))
    (n3 : PySem.W.nsIn K mainGlobals b = some (some (.ref B))) (n4 : PySem.W.nsIn K mainGlobals c = some (some (.ref D))) (e : PySem.W.exmAny K (.ref C) [.ref A, .ref B, .ref D] = some true)
    (ga : PySem.W.findIn K (.ref C) "__getattribute__" = some (some (.builtin "BaseException.__getattribute__"))) (gt : PySem.W.findIn K (.ref C) "__getattr__" = some none) (sb : PySem.W.subIn K (.ref C) (.type "BaseException") = some true)
    (hd : PySem.W.hasDictIn K C = true) (ca : PySem.W.findIn K (.ref C) "__class__" = some (some (.builtin "object.__class__"))) (cg : PySem.W.specialIn K (.builtin "object.__class__") "__get__" = some (some (.builtin "getset_descriptor.__get__")))
    (ct : PySem.W.takesIn K (.builtin "object.__class__") = some true) (mo : PySem.W.mroIn K C (.type "object") = some true) : ErrAt K mg x a b c :=
  ⟨C, A, B, D, PySem.W.mg_of X G n1, PySem.W.mg_of X G n2, PySem.W.mg_of X G n3, PySem.W.mg_of X G n4, e, ga, gt, sb, hd, ca, cg, ct, mo⟩
/-- isinstance of an x: of the own class y -/
structure AskC (K : PySem.W.Frag) (mg : Str → Option Value) (x y : Str) (b : Bool) : Prop where
  ex : ∃ C D : Addr, mg x = some (.ref C) ∧ mg y = some (.ref D) ∧ PySem.W.kitOne K (.ref C) (.ref D) = some b
theorem askC_mk {K : PySem.W.Frag} {mg : Str → Option Value} {x y : Str} {b : Bool} {h : Heap} {C D : Addr} (X : K.In h) (G : h.Ns mainGlobals mg) (n1 : PySem.W.nsIn K mainGlobals x = some (some (.ref C))) (n2 : PySem.W.nsIn K mainGlobals y = some (some (.ref D)))
    (e : PySem.W.kitOne K (.ref C) (.ref D) = some b) : AskC K mg x y b := ⟨C, D, PySem.W.mg_of X G n1, PySem.W.mg_of X G n2, e⟩
/-- of the built-in class y -/
structure AskT (K : PySem.W.Frag) (mg : Str → Option Value) (x : Str) (y : String) (b : Bool) : Prop where
  ex : ∃ C : Addr, mg x = some (.ref C) ∧ PySem.W.kitOne K (.ref C) (.type y) = some b
theorem askT_mk {K : PySem.W.Frag} {mg : Str → Option Value} {x : Str} {y : String} {b : Bool} {h : Heap} {C : Addr} (X : K.In h) (G : h.Ns mainGlobals mg) (n1 : PySem.W.nsIn K mainGlobals x = some (some (.ref C))) (e : PySem.W.kitOne K (.ref C) (.type y) = some b) :
    AskT K mg x y b := ⟨C, PySem.W.mg_of X G n1, e⟩
/-- the exception that a caught call let out: of the class at C, with this value -/
def Out (K : PySem.W.Frag) (C : Addr) (f : Str) (cls : Value) (d : Option Addr) (H : Hp) (dt : PyData) : Prop := ∃ dd v, cls = .ref C ∧ d = some dd ∧ H dd = some (.xd [(f, v)]) ∧ Dd K H v dt ∧ Shows dt
/-- _law_caught(..) of a call that raises an error of C: [tag, repr(its value)] -/
def TCaught (K : PySem.W.Frag) (C : Addr) (f tag : Str) : (XK → Hp → VK → Prop) → Hp → VK → Prop := fun tl H Q =>
  tl (fun cls d H' => ∃ dt, Out K C f cls d H' dt ∧ ∀ l H2, Ex H' H2 → H2 l = some (.lst [.str tag, .str dt.shown]) → Q (.ref l) H2) H (fun _ H' => [V.str "none", V.str ""].length ≤ sizeLine ∧ ∀ p, H' p = none → Q (.ref p) (upd H' p (.lst [.str "none", .str ""])))
end Lw
/-! Values whose repr is asked: atoms, lists and tuples of atoms, the empty dict. -/
namespace Lw
open PySem PySem.Spec PyProof.Rows L2 Evl LamX
inductive Atm : V → PyData → Prop
  | non : Atm .non .none
  | bl (b : Bool) : Atm (.bl b) (.bool b)
  | int (i : Int) : i.natAbs < 2 ^ 1000 → Atm (.int i) (.int i)
  | emp : Atm (.str "") (.str "")
/-- its text can be told -/
def Dsp (K : PySem.W.Frag) (H : Hp) (v : V) : Prop := ∃ d, Dd K H v d ∧ Shows d
/-! ### texts of valid signs -/
theorem ok_app (x y : Str) : PyData.strOk (x ++ y) = (PyData.strOk x && PyData.strOk y) := by
  show (x.cps ++ y.cps).all _ = (x.cps.all _ && y.cps.all _)
  rw [Array.all_append]
theorem ok_of (s : String) : PyData.strOk (Str.ofString s) = true := by
  rw [Str.ofString_eq_toList]
  show ((s.toList.map Char.toNat).toArray).all _ = true
  rw [List.all_toArray, List.all_eq_true]
  intro n hn
  obtain ⟨c, _, rfl⟩ := List.mem_map.mp hn
  have := c.valid
  refine decide_eq_true ?_
  show c.val.toNat < 0x110000
  rcases this with h | h
  · have : c.val.toNat < 55296 := h
    omega
  · exact h.2
theorem ok_text : ∀ {ts : List Str} {k : Nat} {acc : Str}, PyData.strOk acc = true → (∀ t ∈ ts, PyData.strOk t = true) → PyData.strOk (textFrom k acc ts) = true
  | [], _, _, h, _ => h
  | t :: ts, k, acc, h, ht => by
    refine ok_text (ts := ts) ?_ fun u m => ht u (List.mem_cons_of_mem _ m)
    rw [ok_app, ok_app, h, ht t List.mem_cons_self]
    simp only [Bool.true_and, Bool.and_true]
    split <;> exact ok_of _
theorem ok_join {sep : Str} (hs : PyData.strOk sep = true) : ∀ {ts : List Str}, (∀ t ∈ ts, PyData.strOk t = true) → PyData.strOk (Str.join sep ts) = true
  | [], _ => by
    show PyData.strOk Str.empty = true
    decide +kernel
  | [t], h => h t List.mem_cons_self
  | t :: u :: ts, h => by
    rw [Str.join, ok_app, ok_app, h t List.mem_cons_self, hs, ok_join hs fun x m => h x (List.mem_cons_of_mem _ m)]
    all_goals first | rfl | (intro z; cases z)
section
variable {K : PySem.W.Frag} {H H' : Hp} {a : Addr} {v : V} {d : PyData} {vs : List V} {ds : List PyData}
theorem Atm.dp (h : Atm v d) : Dp K H v d := by cases h <;> constructor
theorem Atm.kd (h : Atm v d) : ∃ n, Kd H v n ∧ n ≠ "tuple" := by
  cases h with
  | non => exact ⟨_, .non, by decide⟩
  | bl b => exact ⟨_, .bl b, by decide⟩
  | int i _ => exact ⟨_, .int i, by decide⟩
  | emp => exact ⟨_, .str "", by decide⟩
theorem log_small {n : Nat} (h : n < 2 ^ 1000) : n.log2 < 1000 := by
  by_cases z : n = 0
  · subst z; decide
  · exact (Nat.log2_lt z).mpr h
theorem Atm.show (h : Atm v d) : d.showable = true ∧ d.shown.length ≤ 2000 ∧ PyData.strOk d.shown = true := by
  cases h with
  | non => exact ⟨rfl, by decide, ok_of _⟩
  | bl b => cases b <;> exact ⟨rfl, by decide, ok_of _⟩
  | int i hi =>
    have l := log_small hi
    refine ⟨decide_eq_true (by omega), ?_, ok_of _⟩
    have := int_text_length_le (k := 1000) (by decide) l
    show (Str.ofString (toString i)).length ≤ 2000
    rw [PySem.ofString_length]
    omega
  | emp => exact ⟨rfl, by decide, by decide +kernel⟩
theorem Atm.lay (h : Atm v d) : PyData.canLay0 d = true ∧ d.depth = 0 := by
  cases h with
  | emp => exact ⟨by rw [PyData.canLay0]; exact ok_of _, by simp [PyData.depth]⟩
  | _ => exact ⟨by simp [PyData.canLay0], by simp [PyData.depth]⟩
theorem atms_dp (h : Paired Atm vs ds) : DpAll K H vs ds := by
  induction h with
  | nil => exact .nil
  | cons h t ih => exact .cons h.dp ih
theorem atms_lay (h : Paired Atm vs ds) : PyData.canLayAll0 ds = true ∧ PyData.depthAll ds = 0 := by
  induction h with
  | nil => exact ⟨by simp [PyData.canLayAll0], by simp [PyData.depthAll]⟩
  | cons h t ih => exact ⟨by simp [PyData.canLayAll0, h.lay.1, ih.1], by simp [PyData.depthAll, h.lay.2, ih.2]⟩
theorem atms_show (h : Paired Atm vs ds) : PyData.showableAll ds = true ∧ ((PyData.shownAll ds).map (·.length)).sum ≤ 2000 * ds.length ∧ (PyData.shownAll ds).length = ds.length ∧ ∀ t ∈ PyData.shownAll ds, PyData.strOk t = true := by
  induction h with
  | nil => exact ⟨rfl, by simp [PyData.shownAll], rfl, fun t m => by cases m⟩
  | cons h t ih =>
    obtain ⟨i1, i2, i3, i4⟩ := ih
    obtain ⟨h1, h2, h3⟩ := h.show
    refine ⟨by rw [PyData.showableAll, h1, i1]; rfl, ?_, by rw [PyData.shownAll, List.length_cons, i3, List.length_cons], fun t m => ?_⟩
    · rw [PyData.shownAll, List.map_cons, List.sum_cons, List.length_cons]
      omega
    · rw [PyData.shownAll] at m
      rcases List.mem_cons.mp m with rfl | m
      · exact h3
      · exact i4 t m
theorem Atm.dsp (h : Atm v d) : Dsp K H v := by
  obtain ⟨s1, s2, s3⟩ := h.show
  refine ⟨d, .dp h.dp ?_, s1, Nat.le_trans s2 (by decide), s3⟩
  unfold SeqAt.shaped
  rw [h.lay.1, h.lay.2]
  rfl
theorem dd_l (h : SqL K H a vs) (p : Paired Atm vs ds) (hl : vs.length ≤ 1000) : Dd K H (.ref a) (.list ds) ∧ Shows (.list ds) := by
  obtain ⟨s1, s2, s3, s4⟩ := atms_show p
  have ll := Paired.length p
  refine ⟨.dp (.lst h (atms_dp p)) ?_, s1, ?_, ?_⟩
  · unfold SeqAt.shaped
    simp [PyData.canLay0, PyData.depth, (atms_lay p).1, (atms_lay p).2]
  · have := listText_len_le (PyData.shownAll ds)
    show (listText (PyData.shownAll ds)).length ≤ sizeLine
    rw [sizeLine_eq]
    omega
  · show PyData.strOk (textFrom 0 "[" (PyData.shownAll ds) ++ "]") = true
    rw [ok_app, ok_text (ok_of _) s4]
    exact ok_of _
theorem dsp_l (h : SqL K H a vs) (p : Paired Atm vs ds) (hl : vs.length ≤ 1000) : Dsp K H (.ref a) := ⟨_, dd_l h p hl⟩
theorem dsp_t (h : SqT K H a vs) (p : Paired Atm vs ds) (hl : vs.length ≤ 1000) : Dsp K H (.ref a) := by
  obtain ⟨s1, s2, s3, s4⟩ := atms_show p
  have ll := Paired.length p
  refine ⟨.tuple ds, .dp (.tup h (atms_dp p)) ?_, s1, ?_, ?_⟩
  · unfold SeqAt.shaped
    simp [PyData.canLay0, PyData.depth, (atms_lay p).1, (atms_lay p).2]
  · have := tupleText_len_le (PyData.shownAll ds)
    show (tupleText (PyData.shownAll ds)).length ≤ sizeLine
    rw [sizeLine_eq]
    omega
  · show PyData.strOk (("(" : Str) ++ Str.join ", " (PyData.shownAll ds) ++ _) = true
    rw [ok_app, ok_app, ok_join (ok_of _) s4]
    have o1 : PyData.strOk ("(" : Str) = true := ok_of _
    rw [o1]
    simp only [Bool.true_and]
    split <;> exact ok_of _
theorem dsp_d (h : H a = some (.dK [])) : Dsp K H (.ref a) := ⟨_, .emp h, rfl, by decide, by decide +kernel⟩
theorem Dsp.upN (e : ExtN H H') (h : Dsp K H v) : Dsp K H' v := let ⟨d, x, s⟩ := h; ⟨d, x.upN e, s⟩
theorem Dsp.up (e : Ex H H') (h : Dsp K H v) : Dsp K H' v := h.upN (ExtN.ex e)
theorem atms_kd (p : Paired Atm vs ds) : ∀ x ∈ vs, ∃ n, Kd H x n := by
  induction p with
  | nil => intro x m; cases m
  | cons h t ih =>
    intro x m
    rcases List.mem_cons.mp m with rfl | m
    · obtain ⟨n, k, _⟩ := h.kd (H := H)
      exact ⟨n, k⟩
    · exact ih x m
theorem atm_small {i : Int} (h0 : -100000000000000 ≤ i) (h1 : i ≤ 100000000000000) : Atm (.int i) (.int i) := .int i (Nat.lt_of_lt_of_le (show i.natAbs < 1000000000000000 by omega) (by decide))
/-- lists of lists of texts: equal -/
def rowD (t s : Str) : PyData := .list [.str t, .str s]
theorem dp_row {t s : Str} (h : H a = some (.lst [.str t, .str s])) : Dp K H (.ref a) (rowD t s) := .lst (SqL.of h) (.cons (.str _) (.cons (.str _) .nil))
theorem ne_row {b : Addr} {t s : Str} {Q : VK} (k1 : PyData.strOk t = true) (k2 : PyData.strOk s = true) (h : H a = some (.lst [.str t, .str s])) (h' : H b = some (.lst [.str t, .str s])) (q : Q (.bl false) H) : rNeD K (.ref a) (.ref b) H Q :=
  have sh : SeqAt.shaped (rowD t s) = true := by simp [rowD, SeqAt.shaped, PyData.canLay0, PyData.canLayAll0, PyData.depth, PyData.depthAll, k1, k2]
  ⟨_, _, dp_row h, dp_row h', sh, sh, by rw [SeqAt.eqv_refl _ (SeqAt.canLay_of_shaped sh)]; exact q⟩
theorem rows_lay (n : Nat) (t s : Str) (k1 : PyData.strOk t = true) (k2 : PyData.strOk s = true) : PyData.canLayAll0 (List.replicate n (rowD t s)) = true ∧ PyData.depthAll (List.replicate n (rowD t s)) ≤ 1 := by
  induction n with
  | zero => simp [PyData.canLayAll0, PyData.depthAll]
  | succ n ih =>
    rw [List.replicate_succ]
    exact ⟨by rw [PyData.canLayAll0, ih.1, Bool.and_true, rowD, PyData.canLay0]; simp [PyData.canLayAll0, PyData.canLay0, k1, k2], by rw [PyData.depthAll]; exact Nat.max_le.mpr ⟨by simp [rowD, PyData.depth, PyData.depthAll], ih.2⟩⟩
theorem dps_rows {t s : Str} : ∀ {as : List Addr}, (∀ b ∈ as, H b = some (.lst [.str t, .str s])) → DpAll K H (as.map V.ref) (List.replicate as.length (rowD t s))
  | [], _ => .nil
  | b :: as, h => .cons (dp_row (h b (by simp))) (dps_rows fun c m => h c (List.mem_cons_of_mem _ m))
theorem ne_rows {b : Addr} {t s : Str} {as bs : List Addr} {Q : VK} (k1 : PyData.strOk t = true) (k2 : PyData.strOk s = true) (h : H a = some (.lst (as.map V.ref))) (h' : H b = some (.lst (bs.map V.ref))) (l : as.length = bs.length) (ha : ∀ c ∈ as, H c = some (.lst [.str t, .str s])) (hb : ∀ c ∈ bs, H c = some (.lst [.str t, .str s]))
    (q : Q (.bl false) H) : rNeD K (.ref a) (.ref b) H Q := by
  have sh : SeqAt.shaped (.list (List.replicate as.length (rowD t s))) = true := by
    unfold SeqAt.shaped
    rw [PyData.canLay0, PyData.depth, (rows_lay _ t s k1 k2).1, decide_eq_true (by have := (rows_lay as.length t s k1 k2).2; omega)]
    rfl
  refine ⟨_, _, .lst (SqL.of h) (dps_rows ha), .lst (SqL.of h') (dps_rows hb), sh, by rw [← l]; exact sh, ?_⟩
  rw [← l, SeqAt.eqv_refl _ (SeqAt.canLay_of_shaped sh)]
  exact q
theorem rep3 {l : Addr} {xs : List V} {Q : VK} (h : H l = some (.lst xs)) (hl : xs.length ≤ 1000) (q : ∀ p, H p = none → Q (.ref p) (upd H p (.lst (xs ++ (xs ++ xs))))) : rRep (.ref l) (.int 3) H Q := by
  refine ⟨l, 3, xs, rfl, rfl, h, by decide, by decide, ?_, fun p n => ?_⟩
  · exact Nat.le_trans (by show xs.length * 3 ≤ 100000; omega) line_ge
  · have e : (List.replicate (3 : Int).toNat xs).flatten = xs ++ (xs ++ xs) := by
      show xs ++ (xs ++ (xs ++ [])) = _
      rw [List.append_nil]
    first
      | (rw [e]; exact q p n)
      | exact q p n
end
end Lw
/-! Rectangles a great deal larger: the points that both have. -/
namespace Lw
open PySem PySem.Spec PyProof.Rows L2 Evl LamX
/-- tuple(xs), told of K -/
def tupR (K : PySem.W.Frag) : List V → Hp → VK → Prop := fun xs H Q => ∃ p ys, xs = [.ref p] ∧ ((SqL K H p ys ∧ ∀ l, H l = none → Q (.ref l) (upd H l (.tup ys))) ∨ (SqT K H p ys ∧ Q (.ref p) H))
theorem call_tupK {X : Cx} : CallR X (.type "tuple") (tupR X.K) := call_tuple_of
theorem ints_of_list {f : Int → Int} {ks : List Int} {ys : List V} (hl : ys.length = ks.length) (h : ∀ (i : Nat) y, ys[i]? = some y → ∃ k, ks[i]? = some k ∧ y = .int (f k)) : ys = (ks.map f).map V.int := by
  refine List.ext_getElem? fun i => ?_
  rw [List.getElem?_map, List.getElem?_map]
  by_cases c : i < ys.length
  · obtain ⟨k, e1, e2⟩ := h i ys[i] (List.getElem?_eq_getElem c)
    rw [List.getElem?_eq_getElem c, e1, e2]
    rfl
  · rw [List.getElem?_eq_none (by omega), List.getElem?_eq_none (by omega)]
    rfl
theorem get_ints {ns : List Int} {i : Nat} {x : V} (h : (ns.map V.int)[i]? = some x) : ∃ k, ns[i]? = some k ∧ x = .int k := by
  rw [List.getElem?_map] at h
  cases hz : ns[i]? with
  | none => rw [hz] at h; cases h
  | some k => rw [hz] at h; exact ⟨k, rfl, (Option.some.inj h).symm⟩
theorem ovl_comm (a b : Box) : ovl a b = ovl b a := by
  unfold ovl
  rw [Int.max_comm a.1, Int.max_comm a.2.1, Int.min_comm (a.1 + a.2.2.1), Int.min_comm (a.2.1 + a.2.2.2)]
def big (b : Box) : Box := (100000000000 * b.1, 100000000000 * b.2.1, 100000000000 * b.2.2.1, 100000000000 * b.2.2.2)
theorem ovl_big (a b : Box) : ovl (big a) (big b) = (ovl a b).map big := by
  obtain ⟨a1, a2, a3, a4⟩ := a
  obtain ⟨b1, b2, b3, b4⟩ := b
  unfold ovl big
  dsimp only
  by_cases c : min (a1 + a3) (b1 + b3) ≤ max a1 b1 ∨ min (a2 + a4) (b2 + b4) ≤ max a2 b2
  · rw [if_pos c, if_pos (by omega)]
    rfl
  · rw [if_neg c, if_neg (by omega)]
    show some _ = some _
    refine congrArg some ?_
    refine Prod.ext (by dsimp only; omega) (Prod.ext (by dsimp only; omega) (Prod.ext (by dsimp only; omega) (by dsimp only; omega)))
theorem SmallBox.big {b : Box} (h : SmallBox b) : GoodBox (big b) := by
  obtain ⟨⟨a1, a2⟩, ⟨b1, b2⟩, ⟨c1, c2⟩, d1, d2⟩ := h
  unfold Lw.big
  exact ⟨⟨by dsimp only; omega, by dsimp only; omega⟩, ⟨by dsimp only; omega, by dsimp only; omega⟩, ⟨by dsimp only; omega, by dsimp only; omega⟩, by dsimp only; omega, by dsimp only; omega⟩
theorem OvAt.up {H H' : Hp} {v : V} {o : Option Box} (e : Ex H H') (h : OvAt H v o) : OvAt H' v o := by
  cases o with
  | none => exact h
  | some c => obtain ⟨t, a, b⟩ := h; exact ⟨t, a, e _ _ b⟩
theorem ne_ov {K : PySem.W.Frag} {H : Hp} {v u : V} {o : Option Box} {Q : VK} (h : OvAt H v o) (h' : OvAt H u o) (q : Q (.bl false) H) : rNeD K v u H Q := by
  cases o with
  | none =>
    obtain rfl : v = .non := h
    obtain rfl : u = .non := h'
    exact ⟨_, _, .non, .non, rfl, rfl, q⟩
  | some c =>
    obtain ⟨t, rfl, a⟩ := h
    obtain ⟨t', rfl, a'⟩ := h'
    have dp : ∀ {p}, BoxAt H p c → Dp K H (.ref p) (.tuple [.int c.1, .int c.2.1, .int c.2.2.1, .int c.2.2.2]) := fun {p} z => .tup (SqT.of z) (.cons (.int _) (.cons (.int _) (.cons (.int _) (.cons (.int _) .nil))))
    have sh : SeqAt.shaped (.tuple [.int c.1, .int c.2.1, .int c.2.2.1, .int c.2.2.2]) = true := by simp [SeqAt.shaped, PyData.canLay0, PyData.canLayAll0, PyData.depth, PyData.depthAll]
    exact ⟨_, _, dp a, dp a', sh, sh, by rw [SeqAt.eqv_refl _ (SeqAt.canLay_of_shaped sh)]; exact q⟩
end Lw
/-! Data of some depth whose text can be told. -/
namespace Lw
open PySem PySem.Spec PyProof.Rows L2 Evl LamX
/-! ### data -/
def Nice (B D : Nat) (d : PyData) : Prop := d.showable = true ∧ d.shown.length ≤ B ∧ PyData.strOk d.shown = true ∧ PyData.canLay0 d = true ∧ d.depth ≤ D
section
variable {K : PySem.W.Frag} {H H' : Hp} {a b : Addr} {v : V} {d : PyData} {vs xs ys : List V} {ds : List PyData} {B D n : Nat}
theorem Atm.nice (h : Atm v d) : Nice 2000 0 d := ⟨h.show.1, h.show.2.1, h.show.2.2, h.lay.1, Nat.le_of_eq h.lay.2⟩
theorem Nice.mono {B' D' : Nat} (h : Nice B D d) (h1 : B ≤ B') (h2 : D ≤ D') : Nice B' D' d := ⟨h.1, Nat.le_trans h.2.1 h1, h.2.2.1, h.2.2.2.1, Nat.le_trans h.2.2.2.2 h2⟩
theorem nice_all (h : ∀ x ∈ ds, Nice B D x) : PyData.showableAll ds = true ∧ ((PyData.shownAll ds).map (·.length)).sum ≤ B * ds.length ∧ (PyData.shownAll ds).length = ds.length ∧ (∀ t ∈ PyData.shownAll ds, PyData.strOk t = true) ∧ PyData.canLayAll0 ds = true ∧ PyData.depthAll ds ≤ D := by
  induction ds with
  | nil => exact ⟨rfl, by simp [PyData.shownAll], rfl, (fun t m => by cases m), by simp [PyData.canLayAll0], by simp [PyData.depthAll]⟩
  | cons d ds ih =>
    obtain ⟨i1, i2, i3, i4, i5, i6⟩ := ih fun x m => h x (List.mem_cons_of_mem _ m)
    obtain ⟨h1, h2, h3, h4, h5⟩ := h d List.mem_cons_self
    refine ⟨by rw [PyData.showableAll, h1, i1]; rfl, ?_, by rw [PyData.shownAll, List.length_cons, i3, List.length_cons], (fun t m => ?_), by rw [PyData.canLayAll0, h4, i5]; rfl, by rw [PyData.depthAll]; exact Nat.max_le.mpr ⟨h5, i6⟩⟩
    · rw [PyData.shownAll, List.map_cons, List.sum_cons, List.length_cons, Nat.mul_succ]
      omega
    · rw [PyData.shownAll] at m
      rcases List.mem_cons.mp m with rfl | m
      · exact h3
      · exact i4 t m
theorem nice_tup (h : ∀ x ∈ ds, Nice B D x) (hl : ds.length ≤ n) : Nice (B * n + 2 * n + 3) (D + 1) (.tuple ds) := by
  obtain ⟨h1, h2, h3, h4, h5, h6⟩ := nice_all h
  have m : B * ds.length ≤ B * n := Nat.mul_le_mul_left _ hl
  refine ⟨h1, ?_, ?_, h5, by rw [PyData.depth]; omega⟩
  · have := tupleText_len_le (PyData.shownAll ds)
    show (tupleText (PyData.shownAll ds)).length ≤ _
    omega
  · show PyData.strOk (("(" : Str) ++ Str.join ", " (PyData.shownAll ds) ++ _) = true
    have o1 : PyData.strOk ("(" : Str) = true := ok_of _
    rw [ok_app, ok_app, ok_join (ok_of _) h4, o1]
    simp only [Bool.true_and]
    split <;> exact ok_of _
theorem nice_lst (h : ∀ x ∈ ds, Nice B D x) (hl : ds.length ≤ n) : Nice (B * n + 2 * n + 3) (D + 1) (.list ds) := by
  obtain ⟨h1, h2, h3, h4, h5, h6⟩ := nice_all h
  have m : B * ds.length ≤ B * n := Nat.mul_le_mul_left _ hl
  refine ⟨h1, ?_, ?_, h5, by rw [PyData.depth]; omega⟩
  · have := listText_len_le (PyData.shownAll ds)
    show (listText (PyData.shownAll ds)).length ≤ _
    omega
  · show PyData.strOk (textFrom 0 "[" (PyData.shownAll ds) ++ "]") = true
    rw [ok_app, ok_text (ok_of _) h4]
    exact ok_of _
theorem dsp_nice (h : Dp K H v d) (k : Nice 16000000 60 d) : Dsp K H v := by
  obtain ⟨h1, h2, h3, h4, h5⟩ := k
  refine ⟨d, .dp h ?_, h1, by rw [sizeLine_eq]; omega, h3⟩
  unfold SeqAt.shaped
  rw [h4, decide_eq_true (by omega)]
  rfl
theorem dd_nice (h : Dp K H v d) (k : Nice 16000000 60 d) : Dd K H v d ∧ Shows d := by
  obtain ⟨h1, h2, h3, h4, h5⟩ := k
  refine ⟨.dp h ?_, h1, by rw [sizeLine_eq]; omega, h3⟩
  unfold SeqAt.shaped
  rw [h4, decide_eq_true (by omega)]
  rfl
end
end Lw
/-! Own classes: instances made with keyword-only parameters, their methods (by position and by name), instances that are called, own ==, !=, * and ~. -/
namespace Lw
open PySem PySem.Spec PyProof.Rows L2 Evl
/-! ### words -/
structure OwnC (K : PySem.W.Frag) (mg : Str → Option Value) (x : Str) (C : Addr) (fld : Str) : Prop where
  nm : mg x = some (.ref C)
  cls : Cls K C
  no : NoAttr K C fld
  kc : PySem.W.findIn K (.ref C) "__class__" = some (some (.builtin "object.__class__"))
  kg : PySem.W.specialIn K (.builtin "object.__class__") "__get__" = some (some (.builtin "getset_descriptor.__get__"))
  kt : PySem.W.takesIn K (.builtin "object.__class__") = some true
  ko : PySem.W.mroIn K C (.type "object") = some true
  ii : PySem.W.kitOne K (.ref C) (.ref C) = some true
  it : PySem.W.kitOne K (.type "tuple") (.ref C) = some false
  sf : PySem.W.selfFirst K C = true
  nf : PySem.W.notFirst K C (.type "tuple") = true
  ne : PySem.W.findIn K (.ref C) "__ne__" = some (some (.builtin "object.__ne__"))
structure MethC (K : PySem.W.Frag) (C : Addr) (m q : Str) (st : Stmt) : Prop where
  ex : ∃ (f : Addr) (fd : FuncData), Meth K C m f ∧ PySem.W.fnIn K f = true ∧ Fun K m q st f fd
structure InitC (K : PySem.W.Frag) (C : Addr) (q : Str) (st : Stmt) (kws : List (Str × V)) : Prop where
  ex : ∃ (f : Addr) (fd : FuncData), Mk K C f ∧ FunD K "__init__" q (defArgs st) (defBody st) (defScope st) [] kws f fd
section
variable {K : PySem.W.Frag} {mg : Str → Option Value} {h : Heap} {C f D : Addr} {x fld m q : Str} {st : Stmt} {oc : Value} {od an : Option Addr} {osl : Array (Option Value)} {kV doc pm cdv ct : Value}
theorem ownC_mk (X : K.In h) (G : h.Ns mainGlobals mg) (a : PySem.W.nsIn K mainGlobals x = some (some (.ref C))) (pg : PySem.W.plainGet K C Str.empty = true) (hd : PySem.W.hasDictIn K C = true) (po : PySem.W.plainOver K C = true)
    (sa : PySem.W.findIn K (.ref C) "__setattr__" = some (some (.builtin "object.__setattr__"))) (no : PySem.W.findIn K (.ref C) fld = some none) (kc : PySem.W.findIn K (.ref C) "__class__" = some (some (.builtin "object.__class__")))
    (kg : PySem.W.specialIn K (.builtin "object.__class__") "__get__" = some (some (.builtin "getset_descriptor.__get__"))) (kt : PySem.W.takesIn K (.builtin "object.__class__") = some true) (ko : PySem.W.mroIn K C (.type "object") = some true)
    (ii : PySem.W.kitOne K (.ref C) (.ref C) = some true) (it : PySem.W.kitOne K (.type "tuple") (.ref C) = some false) (sf : PySem.W.selfFirst K C = true) (nf : PySem.W.notFirst K C (.type "tuple") = true)
    (ne : PySem.W.findIn K (.ref C) "__ne__" = some (some (.builtin "object.__ne__"))) : OwnC K mg x C fld := ⟨PySem.W.mg_of X G a, ⟨pg, hd, po, sa⟩, no, kc, kg, kt, ko, ii, it, sf, nf, ne⟩
theorem methC_mk (at_ : PySem.W.findIn K (.ref C) m = some (some (.ref f))) (fn : PySem.W.isFn K (.ref f) = true) (fi : PySem.W.fnIn K f = true)
    (l : K.lookup f = some ⟨oc, od, .func (PySem.W.fnOf m q (defArgs st) (defBody st) (defScope st) .none kV doc pm an cdv ct), osl⟩) (c : PySem.W.codeIn K cdv q = true) (kp : PySem.W.keepIn K (.ref f) = true) : MethC K C m q st :=
  ⟨f, _, ⟨at_, fn, kp⟩, fi, fun_mk l c kp⟩
theorem initC_mk {p1 p2 : Str} {b1 b2 : Bool} (mi : PySem.W.makesIn K C = true) (at_ : PySem.W.findIn K (.ref C) "__init__" = some (some (.ref f))) (fn : PySem.W.isFn K (.ref f) = true) (kC : PySem.W.keepIn K (.ref C) = true)
    (l : K.lookup f = some ⟨oc, od, .func (PySem.W.fnOf "__init__" q (defArgs st) (defBody st) (defScope st) .none (.ref D) doc pm an cdv ct), osl⟩) (c : PySem.W.codeIn K cdv q = true) (kp : PySem.W.keepIn K (.ref f) = true)
    (k1 : PySem.W.nsIn K D p1 = some (some (.bool b1))) (k2 : PySem.W.nsIn K D p2 = some (some (.bool b2))) : InitC K C q st [(p1, .bl b1), (p2, .bl b2)] := by
  refine ⟨f, _, ⟨mi, at_, fn, kC⟩, ⟨⟨oc, od, .none, .ref D, doc, pm, an, cdv, ct, osl, rfl, l, c, .inl ⟨rfl, rfl⟩, .inr ⟨D, rfl, fun z m => ?_⟩⟩, kp⟩⟩
  rcases List.mem_cons.mp m with rfl | m
  · exact ⟨_, k1, rfl⟩
  · obtain rfl := List.mem_singleton.mp m
    exact ⟨_, k2, rfl⟩
end
/-! ### promises of methods -/
structure DefM (P : Program) (w : World) (K : PySem.W.Frag) (mg : Str → Option Value) (base : Heap) (CX : CXT) (k : Nat) (C : Addr) (m q : Str) (st : Stmt) (ps : List Str) (sp : Sp) : Prop where
  ex : ∃ (f : Addr) (fd : FuncData), Meth K C m f ∧ PySem.W.fnIn K f = true ∧ Fun K m q st f fd ∧ FnOk P w K mg base CX k f fd ps sp
def BndM (m q : Str) (st : Stmt) (ps : List Str) : Prop := ∀ (kV doc pm : Value) (an : Option Addr) (cdv ct : Value) (us : List Value), us.length = ps.length →
  bindArgs (PySem.W.fnOf m q (defArgs st) (defBody st) (defScope st) .none kV doc pm an cdv ct) ⟨us, []⟩ = pure (ps.zip us)
def BndMK (m q : Str) (st : Stmt) (ps : List Str) (n : Nat) (ks : List Str) (g : {α : Type} → List α → List α → List α) : Prop :=
  ∀ (kV doc pm : Value) (an : Option Addr) (cdv ct : Value) (us ws : List Value), us.length = n → ws.length = ks.length →
  bindArgs (PySem.W.fnOf m q (defArgs st) (defBody st) (defScope st) .none kV doc pm an cdv ct) ⟨us, ks.zip ws⟩ = pure (ps.zip (g us ws))
section
variable {P : Program} {w : World} {K : PySem.W.Frag} {mg : Str → Option Value} {base : Heap} {k : Nat} {C : Addr} {m q : Str} {st : Stmt} {ps N : List Str} {sp : Sp} {CX : CXT}
theorem defM_of (D : MethC K C m q st) (S : FnScope N ps (defScope st)) (len : ∀ vs H Q E, sp vs H Q E → vs.length = ps.length)
    (hbody : ∀ (f : Addr) (cdv : Value) (A : Around) (outer : List Env) (s : Shared) (H : Hp) (vs : List V) (Q : VK) (E : XK), Room k (A.deeper (envOfC q (defScope st) s.heap.objs.size f cdv)) → sp vs H Q E →
      ∃ t, PSs (cxOf CX0 P w K mg base N q (defScope st) f cdv A outer s H E).nox (defBody st) t ∧ t { nx := fun _ H' => Q .non H', rt := Q } (start N vs) H) : DefM P w K mg base CX0 (k + 1) C m q st ps sp := by
  obtain ⟨f, fd, M, fi, F⟩ := D.ex
  exact ⟨f, fd, M, fi, F, F.ok S len (hbody f)⟩
theorem defMX_of (D : MethC K C m q st) (S : FnScope N ps (defScope st)) (len : ∀ vs H Q E, sp vs H Q E → vs.length = ps.length)
    (hbody : ∀ (f : Addr) (cdv : Value) (A : Around) (outer : List Env) (s : Shared) (H : Hp) (vs : List V) (Q : VK) (E : XK), Room k (A.deeper (envOfC q (defScope st) s.heap.objs.size f cdv)) → sp vs H Q E →
      ∃ t, PSs (cxOf (L2.CX P w) P w K mg base N q (defScope st) f cdv A outer s H E) (defBody st) t ∧ t { nx := fun _ H' => Q .non H', rt := Q } (start N vs) H) : DefM P w K mg base (L2.CX P w) (k + 1) C m q st ps sp := by
  obtain ⟨f, fd, M, fi, F⟩ := D.ex
  exact ⟨f, fd, M, fi, F, F.okX S len (hbody f)⟩
end
/-- the promise of C(..): __init__'s -/
structure DefI (P : Program) (w : World) (K : PySem.W.Frag) (mg : Str → Option Value) (base : Heap) (CX : CXT) (k : Nat) (C : Addr) (q : Str) (st : Stmt) (kws : List (Str × V)) (ps : List Str) (sp : Sp) : Prop where
  ex : ∃ (f : Addr) (fd : FuncData), Mk K C f ∧ FunD K "__init__" q (defArgs st) (defBody st) (defScope st) [] kws f fd ∧ FnOk P w K mg base CX k f fd ps sp
theorem defI_of {P : Program} {w : World} {K : PySem.W.Frag} {mg : Str → Option Value} {base : Heap} {k : Nat} {C : Addr} {q : Str} {st : Stmt} {kws : List (Str × V)} {ps N : List Str} {sp : Sp} (D : InitC K C q st kws) (S : FnScope N ps (defScope st)) (len : ∀ vs H Q E, sp vs H Q E → vs.length = ps.length)
    (hbody : ∀ (f : Addr) (cdv : Value) (A : Around) (outer : List Env) (s : Shared) (H : Hp) (vs : List V) (Q : VK) (E : XK), Room k (A.deeper (envOfC q (defScope st) s.heap.objs.size f cdv)) → sp vs H Q E →
      ∃ t, PSs (cxOf CX0 P w K mg base N q (defScope st) f cdv A outer s H E).nox (defBody st) t ∧ t { nx := fun _ H' => Q .non H', rt := Q } (start N vs) H) : DefI P w K mg base CX0 (k + 1) C q st kws ps sp := by
  obtain ⟨f, fd, M, F⟩ := D.ex
  refine ⟨f, fd, M, F, F.ok S len fun cdv A outer s H vs Q E hr h => ?_⟩
  obtain ⟨t, a, b⟩ := hbody f cdv A outer s H vs Q E hr h
  exact ⟨t, a.nox, b⟩
theorem defIX_of {P : Program} {w : World} {K : PySem.W.Frag} {mg : Str → Option Value} {base : Heap} {k : Nat} {C : Addr} {q : Str} {st : Stmt} {kws : List (Str × V)} {ps N : List Str} {sp : Sp} (D : InitC K C q st kws) (S : FnScope N ps (defScope st)) (len : ∀ vs H Q E, sp vs H Q E → vs.length = ps.length)
    (hbody : ∀ (f : Addr) (cdv : Value) (A : Around) (outer : List Env) (s : Shared) (H : Hp) (vs : List V) (Q : VK) (E : XK), Room k (A.deeper (envOfC q (defScope st) s.heap.objs.size f cdv)) → sp vs H Q E →
      ∃ t, PSs (cxOf (L2.CX P w) P w K mg base N q (defScope st) f cdv A outer s H E) (defBody st) t ∧ t { nx := fun _ H' => Q .non H', rt := Q } (start N vs) H) : DefI P w K mg base (L2.CX P w) (k + 1) C q st kws ps sp := by
  obtain ⟨f, fd, M, F⟩ := D.ex
  exact ⟨f, fd, M, F, F.ok S len fun cdv A outer s H vs Q E hr h => hbody f cdv A outer s H vs Q E hr h⟩
/-- what C(e, .., k = v, ..) binds: n by position (self ahead), the names ks, the names ms lack -/
def BndI (q : Str) (st : Stmt) (ps : List Str) (n : Nat) (ks : List Str) (ms : List (Str × V)) (g : {α : Type} → List α → List α → List α → List α) : Prop :=
  ∀ (D : Addr) (doc pm : Value) (an : Option Addr) (cdv ct : Value) (us mv ws : List Value), us.length = n → mv.length = ms.length → ws.length = ks.length →
      KwChain D ((ms.map (·.1)).zip mv) (bindArgs (PySem.W.fnOf "__init__" q (defArgs st) (defBody st) (defScope st) .none (.ref D) doc pm an cdv ct) ⟨us, ks.zip ws⟩) (ps.zip (g us mv ws))
section
variable {X : Cx} {CX : CXT} {k j n : Nat} {C : Addr} {m q x : Str} {st : Stmt} {ps ks : List Str} {kws ms : List (Str × V)} {sp : Sp} {E : XK} {p apos pos : Pos} {o fe e : Expr} {es : List Expr} {kwe : List Keyword} {ta t tk tf : TE} {ts tks : TA}
theorem kbnI {f : Addr} {fd : FuncData} {g : {α : Type} → List α → List α → List α → List α} {K : PySem.W.Frag} (F : FunD K "__init__" q (defArgs st) (defBody st) (defScope st) [] kws f fd) (b : BndI q st ps n ks ms g) (hk : kws ≠ []) (hms : ∀ z ∈ ms, z ∈ kws)
    (hrel : ∀ {vs mz zs : List V} {us mv ws : List Value}, Vals vs us → Vals mz mv → Vals zs ws → Vals (g vs mz zs) (g us mv ws)) : ∃ mv : List Value, KBn K fd ps n ks (fun us ws => g us mv ws) (fun vs zs => g vs (ms.map (·.2)) zs) :=
  F.kbinds0 n ks ms g hk hms hrel b
theorem pe_mkI {g : {α : Type} → List α → List α → List α → List α} (d : DefI X.prog X.w X.K X.mg X.base CX k C q st kws ps sp) (b : BndI q st ps (n + 1) ks ms g)
    (hrel : ∀ {vs mz zs : List V} {us mv ws : List Value}, Vals vs us → Vals mz mv → Vals zs ws → Vals (g vs mz zs) (g us mv ws)) (hk : kws ≠ []) (hms : ∀ z ∈ ms, z ∈ kws)
    (hm : X.mg x = some (.ref C)) (hr : Room j X.A) (hj : k + 1 ≤ j) (hg : Gl X x) (hx : Passes CX X E) (ha : PA X (e :: es) ts) (hkw : PK X kwe tks)
    (hall : (backToKw pos (keywordEach kwe X.env)).all (·.1.isSome) = true := by rfl) (hks : (backToKw pos (keywordEach kwe X.env)).filterMap (·.1) = ks := by rfl) (hdb : (x == ("__debug__" : Str)) = false := by decide)
    (he : starEach (e :: es) X.env = (false, eval e X.env) :: starEach es X.env := by rfl) (hpl : ((backTo pos (starEach (e :: es) X.env)).any (·.1) || (backToKw pos (keywordEach kwe X.env)).any (·.1.isNone)) = false := by rfl) :
    PE X (.Call (.Name x p) (e :: es) kwe pos) (tMakeK C n ks.length sp (fun vs zs => g vs (ms.map (·.2)) zs) E ts tks) := by
  obtain ⟨f, fd, M, F, o⟩ := d.ex
  obtain ⟨mv, kb⟩ := kbnI F b hk hms hrel
  exact pe_makeK M o (hr.mono hj) hg hm kb hx ha hkw hall hks hdb he hpl
theorem pe_mkI0 {g : {α : Type} → List α → List α → List α → List α} (d : DefI X.prog X.w X.K X.mg X.base CX k C q st kws ps sp) (b : BndI q st ps 1 ks ms g)
    (hrel : ∀ {vs mz zs : List V} {us mv ws : List Value}, Vals vs us → Vals mz mv → Vals zs ws → Vals (g vs mz zs) (g us mv ws)) (hk : kws ≠ []) (hms : ∀ z ∈ ms, z ∈ kws)
    (hm : X.mg x = some (.ref C)) (hr : Room j X.A) (hj : k + 1 ≤ j) (hg : Gl X x) (hx : Passes CX X E) (hkw : PK X kwe tks)
    (hall : (backToKw pos (keywordEach kwe X.env)).all (·.1.isSome) = true := by rfl) (hks : (backToKw pos (keywordEach kwe X.env)).filterMap (·.1) = ks := by rfl) (hdb : (x == ("__debug__" : Str)) = false := by decide)
    (hpl : ((backTo pos (starEach [] X.env)).any (·.1) || (backToKw pos (keywordEach kwe X.env)).any (·.1.isNone)) = false := by rfl) :
    PE X (.Call (.Name x p) [] kwe pos) (tMakeK C 0 ks.length sp (fun vs zs => g vs (ms.map (·.2)) zs) E tNil tks) := by
  obtain ⟨f, fd, M, F, o⟩ := d.ex
  obtain ⟨mv, kb⟩ := kbnI F b hk hms hrel
  exact pe_makeK0 M o (hr.mono hj) hg hm kb hx hkw hall hks hdb hpl
/-- o.m(e, ..) -/
theorem pe_om {pl : Sem Bool} (he : PE X o ta) (c : Cls X.K C) (d : DefM X.prog X.w X.K X.mg X.base CX k C m q st ps sp) (b : BndM m q st ps) (hr : Room j X.A) (hj : k ≤ j) (hx : Passes CX X E) (ha : PA X (e :: es) ts)
    (hst : starEach (e :: es) X.env = (false, eval e X.env) :: starEach es X.env := by rfl) (hpl : (backTo pos (starEach es X.env)).any (·.1) = false := by rfl)
    (ht : eval (.Call (.Attribute o m apos) (e :: es) [] pos) X.env = (do
      let ov ← eval o X.env
      standAt apos.atName
      let (f, first) ← holding [ov] (getMethod ov m pl)
      callWith pos f first (backTo pos (starEach (e :: es) X.env)) (backToKw pos (keywordEach [] X.env))) := by rfl) :
    PE X (.Call (.Attribute o m apos) (e :: es) [] pos) (tMeth C m sp [] E ta ts) := by
  obtain ⟨f, fd, M, _, F, ok⟩ := d.ex
  exact pe_meth he c M ok (hr.mono hj) (F.binds b) .nil hx ha hst hpl ht
def tMethK (C : Addr) (m : Str) (n : Nat) (sp : Sp) (gV : List V → List V → List V) (E : XK) (ta : TE) (tk : TA) : TE := fun σ H Q => ta σ H fun x H1 => ∃ a dx fs, x = .ref a ∧ H1 a = some (.ins C dx fs) ∧ fs.lookup m = none ∧
  tk σ H1 fun zs H2 => zs.length = n ∧ sp (gV [.ref a] zs) H2 Q E
/-- o.m(k = v, ..) -/
theorem pe_omk {pl : Sem Bool} {g : {α : Type} → List α → List α → List α} (he : PE X o ta) (c : Cls X.K C) (d : DefM X.prog X.w X.K X.mg X.base CX k C m q st ps sp) (b : BndMK m q st ps 1 ks g)
    (hrel : ∀ {vs zs : List V} {us ws : List Value}, Vals vs us → Vals zs ws → Vals (g vs zs) (g us ws)) (hr : Room j X.A) (hj : k ≤ j) (hx : Passes CX X E) (hkw : PK X kwe tks)
    (hall : (backToKw pos (keywordEach kwe X.env)).all (·.1.isSome) = true := by rfl) (hks : (backToKw pos (keywordEach kwe X.env)).filterMap (·.1) = ks := by rfl)
    (hpl : ((backTo pos (starEach [] X.env)).any (·.1) || (backToKw pos (keywordEach kwe X.env)).any (·.1.isNone)) = false := by rfl)
    (ht : eval (.Call (.Attribute o m apos) [] kwe pos) X.env = (do
      let ov ← eval o X.env
      standAt apos.atName
      let (f, first) ← holding [ov] (getMethod ov m pl)
      callWith pos f first (backTo pos (starEach [] X.env)) (backToKw pos (keywordEach kwe X.env))) := by rfl) :
    PE X (.Call (.Attribute o m apos) [] kwe pos) (tMethK C m ks.length sp (fun vs zs => g vs zs) E ta tks) := by
  obtain ⟨f, fd, M, _, F, ok⟩ := d.ex
  obtain ⟨oc, od, kV, doc, pm, an, cdv, ct, osl, rfl, lk, hcd⟩ := F.ex
  have kb : KBn X.K (PySem.W.fnOf m q (defArgs st) (defBody st) (defScope st) .none kV doc pm an cdv ct) ps 1 ks (fun us ws => g us ws) (fun vs zs => g vs zs) := ⟨fun s us ws _ h1 h2 => .of_eq (b kV doc pm an cdv ct us ws h1 h2), hrel⟩
  refine ⟨fun pins s σ H Q I h => ?_⟩
  refine PySem.W.methodCall_KW (pl := pl) (thn (he.run pins s σ H _ I h) fun u s1 ⟨x, H1, I1, rx, a, dx, fs, ex, ea, l, q⟩ => ?_) ht
  subst ex
  obtain rfl : u = Value.ref a := rx
  refine getmeth_ok I1 ea c M l ?_
  refine PySem.W.callWith_KW0 (first := [.ref a]) (h₀ := X.base) I1.ok.mod.kin M.kp hall ?_ hpl
  refine thn (hkw.run pos pins s1 σ H1 _ I1 q) fun ws s2 ⟨zs, H2, I2, rz, l1, q2⟩ => ⟨I2.kIn, ?_⟩
  rw [hks]
  exact run_fnN (us := [.ref a]) (vs := [.ref a]) ok (hr.mono hj) kb hx I2 (.cons rfl .nil) rz rfl l1 q2
/-- x(e, ..), x an instance -/
theorem pe_co (hf : PE X fe tf) (c : DefM X.prog X.w X.K X.mg X.base CX k C "__call__" q st ps sp) (b : BndM "__call__" q st ps) (hr : Room j X.A) (hj : k ≤ j) (hx : Passes CX X E) (ha : PA X (e :: es) ts)
    (ht : eval (.Call fe (e :: es) [] pos) X.env = (do callWith pos (← eval fe X.env) [] (backTo pos (starEach (e :: es) X.env)) (backToKw pos (keywordEach [] X.env))) := by rfl)
    (he : starEach (e :: es) X.env = (false, eval e X.env) :: starEach es X.env := by rfl) (hpl : (backTo pos (starEach es X.env)).any (·.1) = false := by rfl) :
    PE X (.Call fe (e :: es) [] pos) (fun σ H Q => tf σ H fun y H1 => ∃ a, y = V.ref a ∧ ts σ H1 fun vs H2 => (∃ dx fs, H2 a = some (.ins C dx fs)) ∧ sp (V.ref a :: vs) H2 Q E) := by
  obtain ⟨f, fd, M, fi, F, ok⟩ := c.ex
  refine ⟨fun pins s σ H Q I h => ?_⟩
  refine Call_ (thn (hf.run pins s σ H _ I h) fun u s1 ⟨y, H1, I1, ry, a, ey, q⟩ => ?_) ht
  subst ey
  obtain rfl : u = Value.ref a := ry
  refine StX.callO_with (thn (ha.run pos pins s1 σ H1 _ I1 q) fun us s2 ⟨vs, H2, I2, r, hi, q2⟩ => ?_) he hpl
  obtain ⟨ox, od, J, hd⟩ := StX.insC_at I2 (.inr hi)
  refine ⟨⟨C, ox, od, J, hd⟩, StX.run_callO (X := X) ⟨M.at_, M.fn, fi⟩ (ok.raw (F.binds b) .nil) (hr.mono hj) hx I2 (.inr hi) r ?_⟩
  rw [List.append_nil]
  exact q2
end
/-! ### operators -/
/-- the other side of an own ==: an instance of the class, or a tuple -/
def Other (C : Addr) (y : V) (H : Hp) : Prop := (∃ b dx fs, y = .ref b ∧ H b = some (.ins C dx fs)) ∨ ∃ b ys, y = .ref b ∧ H b = some (.tup ys)
theorem ne_bind (self : Value) : bindSpecial (.builtin "object.__ne__") self = pure (.builtin "object.__ne__", [self]) := PySem.F.cmp_object.ne.bind self
section
variable {X : Cx} {CX : CXT} {k j : Nat} {C : Addr} {q x fld : Str} {st : Stmt} {ps : List Str} {sp : Sp} {E : XK} {pins : List (Addr × Obj)} {σ : L2.St} {H : Hp} {s : Shared}
theorem other_ty {y : V} {u : Value} (I : Inv X pins σ H s) (o : OwnC X.K X.mg x C fld) (h : Other C y H) (r : RelV y u) : ∃ tb, PySem.W.Looks (model X.prog X.w) s.heap (typeOf u) tb ∧ PySem.W.notFirst X.K C tb = true := by
  rcases h with ⟨b, dx, fs, rfl, h⟩ | ⟨b, ys, rfl, h⟩
  · cases r
    obtain ⟨mA, J, _⟩ := ins_get I.hok h
    obtain ⟨od, J, _⟩ := J.look
    exact ⟨_, J.type, by simp [PySem.W.notFirst]⟩
  · cases r
    obtain ⟨_, _, _, p⟩ := (show ObjOk X.prog X.w H s.heap b (.tup ys) from I.hok b _ h)
    obtain ⟨o', h1, h2, _⟩ := p
    exact ⟨.type "tuple", (PySem.W.Looks.ld h1).andThen (by rw [h2]; exact .now), o.nf⟩
theorem op_eqI (d : DefM X.prog X.w X.K X.mg X.base CX k C "__eq__" q st ps sp) (b : BndM "__eq__" q st ps) (o : OwnC X.K X.mg x C fld) (hr : Room j X.A) (hj : k ≤ j) (hx : Passes CX X E) :
    OpR X (compareOp .Eq) (fun x y H Q => ∃ a dx fs, x = .ref a ∧ H a = some (.ins C dx fs) ∧ Other C y H ∧ sp [x, y] H (fun v H' => ∃ b, v = .bl b ∧ Q (.bl b) H') E) := by
  intro pins s σ H x y v u Q I rx ry hq
  obtain ⟨a, dx, fs, rfl, ha, hy, hs⟩ := hq
  cases rx
  obtain ⟨f, fd, M, fi, F, ok⟩ := d.ex
  obtain ⟨tb, t1, t2⟩ := other_ty I o hy ry
  obtain ⟨mA, J, _⟩ := ins_get I.hok ha
  obtain ⟨od, J, _⟩ := J.look
  obtain ⟨mm, hF⟩ := I.fr
  show wpAny (model X.prog X.w) X.A (richCompare .Eq (.ref a) u) (EP X pins σ Q) X.xe s
  refine PySem.W.cmp_K (op := .Eq) (tb := tb) hr.units0 hF I.ok.mod.kin J t1 t2 M.at_ M.fn ?_
  refine wpAny_mono (run_fn (us := [.ref a, u]) (vs := [.ref a, y]) ok (hr.mono hj) (F.binds b) .nil hx I (.cons rfl (.cons ry .nil)) hs) (fun z s' hz => ?_) fun _ _ e => e
  obtain ⟨w', H', I', rw', bb, rfl, qq⟩ := hz
  cases rw'
  exact ⟨.bl bb, H', I', rfl, qq⟩
theorem op_mulI (d : DefM X.prog X.w X.K X.mg X.base CX k C "__mul__" q st ps sp) (b : BndM "__mul__" q st ps) (o : OwnC X.K X.mg x C fld) (hr : Room j X.A) (hj : k ≤ j) (hx : Passes CX X E) :
    OpR X (binaryOp .Mult) (fun x y H Q => ∃ a dx fs b dy gs, x = .ref a ∧ H a = some (.ins C dx fs) ∧ y = .ref b ∧ H b = some (.ins C dy gs) ∧ sp [x, y] H (fun v H' => ∃ b, v = .ref b ∧ Q (.ref b) H') E) := by
  intro pins s σ H x y v u Q I rx ry hq
  obtain ⟨a, dx, fs, c, dy, gs, rfl, ha, rfl, hc, hs⟩ := hq
  cases rx
  cases ry
  obtain ⟨f, fd, M, fi, F, ok⟩ := d.ex
  obtain ⟨mA, J, _⟩ := ins_get I.hok ha
  obtain ⟨od, J, _⟩ := J.look
  obtain ⟨mB, J2, _⟩ := ins_get I.hok hc
  obtain ⟨od2, J2, _⟩ := J2.look
  obtain ⟨mm, hF⟩ := I.fr
  refine PySem.W.binop_K (op := .Mult) hF I.ok.mod.kin J J2.type o.sf M.at_ M.fn ?_
  refine wpAny_mono (run_fn (us := [.ref a, .ref c]) (vs := [.ref a, .ref c]) ok (hr.mono hj) (F.binds b) .nil hx I (.cons rfl (.cons rfl .nil)) hs) (fun z s' hz => ?_) fun _ _ e => e
  obtain ⟨w', H', I', rw', bb, rfl, qq⟩ := hz
  cases rw'
  exact ⟨.ref bb, H', I', rfl, qq⟩
theorem un_invI (d : DefM X.prog X.w X.K X.mg X.base CX k C "__invert__" q st ps sp) (b : BndM "__invert__" q st ps) (hr : Room j X.A) (hj : k ≤ j) (hx : Passes CX X E) :
    UnR X (unaryOp .Invert) (fun x H Q => ∃ a dx fs, x = .ref a ∧ H a = some (.ins C dx fs) ∧ sp [x] H Q E) := by
  intro pins s σ H x v Q I rx hq
  obtain ⟨a, dx, fs, rfl, ha, hs⟩ := hq
  cases rx
  obtain ⟨f, fd, M, fi, F, ok⟩ := d.ex
  obtain ⟨mA, J, _⟩ := ins_get I.hok ha
  obtain ⟨od, J, _⟩ := J.look
  obtain ⟨mm, hF⟩ := I.fr
  exact PySem.W.ksp_inv hF I.ok.mod.kin J M.at_ M.fn (run_fn (us := [.ref a]) (vs := [.ref a]) ok (hr.mono hj) (F.binds b) .nil hx I (.cons rfl .nil) hs)
theorem op_neI (d : DefM X.prog X.w X.K X.mg X.base CX k C "__eq__" q st ps sp) (b : BndM "__eq__" q st ps) (o : OwnC X.K X.mg x C fld) (hr : Room j X.A) (hj : k + 1 ≤ j) (hx : Passes CX X E) :
    OpR X (compareOp .NotEq) (fun x y H Q => ∃ a dx fs, x = .ref a ∧ H a = some (.ins C dx fs) ∧ Other C y H ∧ sp [x, y] H (fun v H' => ∃ b, v = .bl b ∧ Q (.bl (!b)) H') E) := by
  intro pins s σ H x y v u Q I rx ry hq
  obtain ⟨a, dx, fs, rfl, ha, hy, hs⟩ := hq
  cases rx
  obtain ⟨f, fd, M, fi, F, ok⟩ := d.ex
  obtain ⟨tb, t1, t2⟩ := other_ty I o hy ry
  obtain ⟨mA, J, _⟩ := ins_get I.hok ha
  obtain ⟨od, J, _⟩ := J.look
  obtain ⟨mm, hF⟩ := I.fr
  have X0 := I.kIn
  have tyO : PySem.W.Looks (model X.prog X.w) s.heap (isInstance (.ref a) (.type "object")) true := J.type.andThen (PySem.W.looks_mroIn X0 o.ko)
  have hsz : (Value.ref a :: [u]).length = ps.length := by
    have := (show Vals [V.ref a, y] [Value.ref a, u] from .cons rfl (.cons ry .nil)).length
    rw [show Value.ref a :: [u] = [Value.ref a, u] from rfl, ← this]
    exact ok.len _ _ _ _ hs
  have core : wpAny (model X.prog X.w) X.A.in1 (call (.ref f) [.ref a, u]) (fun v s' => ∃ b, v = .bool b ∧ EP X pins σ Q (.bool (!b)) s') X.xe s := by
    have hb := (F.binds b) s [.ref a, u] X0 (by rw [List.append_nil]; exact hsz)
    rw [List.append_nil] at hb
    refine wpAny_call (codeAny_mono (ok.run X.A.in1 X.stack s H ⟨[.ref a, u], []⟩ [.ref a, u] [.ref a, y] _ E ((hr.mono hj).in1) I.env0.in1 hb (.cons rfl (.cons ry .nil)) hs) fun r s' hq => ?_)
    cases r with
    | error e => exact hx pins σ H s e s' I hq
    | ok fl =>
      cases fl with
      | ret w' =>
        obtain ⟨z, H', I', rz, bb, rfl, qq⟩ := I.after hq
        cases rz
        exact ⟨bb, rfl, .bl (!bb), H', I', rfl, qq⟩
      | next => exact False.elim hq
      | brk => exact False.elim hq
      | cont => exact False.elim hq
  have body : wpAny (model X.prog X.w) X.A (call (.builtin "object.__ne__") [.ref a, u]) (fun v s' => ∃ b, v = .bool b ∧ EP X pins σ Q (.bool b) s') X.xe s := by
    refine wpAny_call (codeAny_call_builtin PySem.F.cmp_object.ne.plain PySem.F.cmpEntry_ne (PySem.W.check_slot PySem.F.cmpKind_ne PySem.F.cmpSplit_ne tyO (PySem.F.cmpArgs_ne _ _) ?_))
    clear hs
    obtain ⟨hp, g, dd, t, os⟩ := s
    unfold Builtin.«object.__ne__»
    repeat (first
      | with_reducible refine wpAny_cRoomFor (hr.mono hj).in1.units0 ?_
      | (refine wpAny_bind (m := callSpecialIfBound? (.ref a) (Str.ofString "__eq__") [u]) (PySem.W.ifBound_K X0 J M.at_ M.fn (wpAny_mono core (fun r s' hr => ?_) fun _ _ e => e)))
      | wp_step)
    obtain ⟨bb, rfl, hq⟩ := hr
    dsimp only
    refine wpAny_bind (wpAny_truthy_bool ?_)
    exact wpAny_pure ⟨_, rfl, hq⟩
  have bound : wpAny (model X.prog X.w) X.A (callSpecialIfBound? (.ref a) "__ne__" [u]) (fun r s' => ∃ b, r = some (.bool b) ∧ EP X pins σ Q (.bool b) s') X.xe s := by
    simp only [callSpecialIfBound?, bindSpecialIfBound?]
    refine wpAny_holding (wpAny_bind (wpAny_bind (wpAny_bind (J.type.here ((PySem.W.looks_findIn X0 o.ne).here ?_)))))
    refine wpAny_bind (wpAny_askSetting (wpAny_ite ?_))
    have fin : wpAny (model X.prog X.w) X.A (call (.builtin "object.__ne__") ([.ref a] ++ [u]) >>= fun v => pure (some v)) (fun r s' => ∃ b, r = some (.bool b) ∧ EP X pins σ Q (.bool b) s') X.xe s := wpAny_bind (wpAny_mono body (fun v s' h' => by
      obtain ⟨b, rfl, h'⟩ := h'
      exact wpAny_pure ⟨b, rfl, h'⟩) fun _ _ h' => h')
    split
    · exact wpAny_bind ((PySem.W.Looks.of_pure (ne_bind _)).here (wpAny_pure (by exact fin)))
    · exact wpAny_tryCatch (wpAny_bind ((PySem.W.Looks.of_pure (ne_bind _)).here (wpAny_pure (by exact fin))))
  have one : wpAny (model X.prog X.w) X.A (tryCompare (.ref a) "__ne__" u) (fun r s' => ∃ v, r = some v ∧ EP X pins σ Q v s') X.xe s := by
    unfold tryCompare
    refine wpAny_bind (wpAny_mono bound (fun v s' hv => ?_) fun _ _ e => e)
    obtain ⟨b, rfl, hq⟩ := hv
    exact wpAny_pure ⟨_, rfl, hq⟩
  show wpAny (model X.prog X.w) X.A (richCompare .NotEq (.ref a) u) (EP X pins σ Q) X.xe s
  unfold richCompare
  simp only [oneThing_ref]
  refine wpAny_holding (wpAny_bind (wpAny_cRoomFor hr.units0 ?_))
  refine wpAny_bind (J.type.here (wpAny_bind (t1.here ?_)))
  split
  · rename_i q
    have e : PySem.W.subIn X.K tb (.ref C) = some false := by
      rcases Bool.or_eq_true_iff.mp t2 with e | e
      · rw [beq_iff_eq.mp e] at q; simp at q
      · exact beq_iff_eq.mp e
    refine wpAny_bind ((PySem.W.looks_subIn X0 e).here ?_)
    simp only [Bool.false_eq_true, if_false]
    refine wpAny_bind (wpAny_mono one (fun r s' z => ?_) fun _ _ e => e)
    obtain ⟨v, rfl, hq⟩ := z
    exact wpAny_pure hq
  · refine wpAny_bind (wpAny_pure ?_)
    simp only [Bool.false_eq_true, if_false]
    refine wpAny_bind (wpAny_mono one (fun r s' z => ?_) fun _ _ e => e)
    obtain ⟨v, rfl, hq⟩ := z
    exact wpAny_pure hq
end
end Lw
/-! Maps of points: two lines (number, mirrored), one for each coordinate. -/
namespace Lw
open PySem PySem.Spec PyProof.Rows L2 Evl
/-- where a line takes a place -/
def tk (l : Int × Bool) (u : Int) : Int := if l.2 = true then l.1 - u else l.1 + u
/-- a map in the heap -/
def MI (C : Addr) (H : Hp) (a : Addr) (l r : Int × Bool) : Prop := ∃ dx t r1 r2, H a = some (.ins C dx [("lines", .ref t)]) ∧ H t = some (.tup [.ref r1, .ref r2]) ∧ H r1 = some (.tup [.int l.1, .bl l.2]) ∧ H r2 = some (.tup [.int r.1, .bl r.2])
theorem MI.up {C : Addr} {H H' : Hp} {a : Addr} {l r : Int × Bool} (e : Ex H H') (m : MI C H a l r) : MI C H' a l r := by
  obtain ⟨dx, t, r1, r2, h1, h2, h3, h4⟩ := m
  exact ⟨dx, t, r1, r2, e _ _ h1, e _ _ h2, e _ _ h3, e _ _ h4⟩
theorem MI.ins {C : Addr} {H : Hp} {a : Addr} {l r : Int × Bool} (m : MI C H a l r) : ∃ dx fs, H a = some (.ins C dx fs) := by
  obtain ⟨dx, t, r1, r2, h1, _⟩ := m
  exact ⟨dx, _, h1⟩
/-- Mirror(x, y, across, down) -/
def spMkM (C : Addr) : Sp := fun vs H Q _ => ∃ a dx x y o d, vs = [.ref a, .int x, .int y, .bl o, .bl d] ∧ H a = some (.ins C dx []) ∧ ∀ H', (∀ b u, b ≠ a → H b = some u → H' b = some u) → MI C H' a (x, o) (y, d) → Q .non H'
theorem mir_made {C : Addr} {H : Hp} {X Y : Int} {o d : Bool} {Q : VK} {E : XK} (q : ∀ a H', Ex H H' → MI C H' a (X, o) (Y, d) → Q (.ref a) H') :
    ∀ x dx, H x = none → H dx = none → dx ≠ x → spMkM C [.ref x, .int X, .int Y, .bl o, .bl d] (upd (upd H dx (.own x)) x (.ins C dx [])) (fun v H3 => v = .non ∧ Q (.ref x) H3) E := by
  intro x dx hx hd ne
  refine ⟨x, dx, X, Y, o, d, rfl, upd_same, fun H' h m => ⟨rfl, q x H' (fun b u hb => ?_) m⟩⟩
  have n1 : b ≠ x := ne_of_none hb hx
  have n2 : b ≠ dx := ne_of_none hb hd
  exact h b u n1 (by rw [upd_ne n1, upd_ne n2]; exact hb)
theorem mir_made2 {C : Addr} {H : Hp} (X Y : Int) (o d : Bool) {g : Addr → List V} {Q : VK} {E : XK} (hg : ∀ x, g x = [.ref x, .int X, .int Y, .bl o, .bl d]) (q : ∀ a H', Ex H H' → MI C H' a (X, o) (Y, d) → Q (.ref a) H') :
    ∀ x dx, H x = none → H dx = none → dx ≠ x → spMkM C (g x) (upd (upd H dx (.own x)) x (.ins C dx [])) (fun v H3 => v = .non ∧ Q (.ref x) H3) E := fun x dx hx hd ne => by
  rw [hg]
  exact mir_made q x dx hx hd ne
theorem mir_made3 {C : Addr} {H : Hp} {X Y : Int} {o d : Bool} {Q : VK} {E : XK} {x dx : Addr} (hx : H x = none) (hd : H dx = none) (ne : dx ≠ x) (q : ∀ H', Ex H H' → MI C H' x (X, o) (Y, d) → Q .non H') :
    spMkM C [.ref x, .int X, .int Y, .bl o, .bl d] (upd (upd H dx (.own x)) x (.ins C dx [])) Q E := by
  refine ⟨x, dx, X, Y, o, d, rfl, upd_same, fun H' h m => q H' (fun b u hb => ?_) m⟩
  have n1 : b ≠ x := ne_of_none hb hx
  have n2 : b ≠ dx := ne_of_none hb hd
  exact h b u n1 (by rw [upd_ne n1, upd_ne n2]; exact hb)
def spCallM (C : Addr) : Sp := fun vs H Q _ => ∃ a l r u v, MI C H a l r ∧ vs = [.ref a, .int u, .int v] ∧ ∀ p H', Ex H H' → H' p = some (.tup [.int (tk l u), .int (tk r v)]) → Q (.ref p) H'
def spEqM (C : Addr) : Sp := fun vs H Q _ => ∃ a l r y, MI C H a l r ∧ vs = [.ref a, y] ∧ ((∃ b l' r', y = .ref b ∧ MI C H b l' r' ∧ Q (.bl (decide (l = l' ∧ r = r'))) H) ∨ ∃ b ys, y = .ref b ∧ H b = some (.tup ys) ∧ Q (.bl false) H)
/-- behind one another -/
def tkm (l k : Int × Bool) : Int × Bool := (tk l k.1, decide (l.2 ≠ k.2))
def tki (l : Int × Bool) : Int × Bool := (if l.2 = true then l.1 else -l.1, l.2)
def spMulM (C : Addr) : Sp := fun vs H Q _ => ∃ a b l r l' r', MI C H a l r ∧ MI C H b l' r' ∧ vs = [.ref a, .ref b] ∧ ∀ c H', Ex H H' → MI C H' c (tkm l l') (tkm r r') → Q (.ref c) H'
def spInvM (C : Addr) : Sp := fun vs H Q _ => ∃ a l r, MI C H a l r ∧ vs = [.ref a] ∧ ∀ c H', Ex H H' → MI C H' c (tki l) (tki r) → Q (.ref c) H'
theorem tk_mul (l k : Int × Bool) (u : Int) : tk (tkm l k) u = tk l (tk k u) := by
  obtain ⟨a, x⟩ := l
  obtain ⟨b, y⟩ := k
  cases x <;> cases y <;> simp [tk, tkm] <;> omega
theorem tk_inv1 (l : Int × Bool) (u : Int) : tk (tki l) (tk l u) = u := by
  obtain ⟨a, x⟩ := l
  cases x <;> simp [tk, tki] <;> omega
theorem tk_inv2 (l : Int × Bool) (u : Int) : tk l (tk (tki l) u) = u := by
  obtain ⟨a, x⟩ := l
  cases x <;> simp [tk, tki] <;> omega
theorem tkm_assoc (a b c : Int × Bool) : tkm (tkm a b) c = tkm a (tkm b c) := by
  obtain ⟨a, x⟩ := a
  obtain ⟨b, y⟩ := b
  obtain ⟨c, z⟩ := c
  cases x <;> cases y <;> cases z <;> simp [tk, tkm] <;> omega
theorem tkm_inv1 (l : Int × Bool) : tkm l (tki l) = (0, false) := by
  obtain ⟨a, x⟩ := l
  cases x <;> simp [tk, tkm, tki] <;> omega
theorem tkm_inv2 (l : Int × Bool) : tkm (tki l) l = (0, false) := by
  obtain ⟨a, x⟩ := l
  cases x <;> simp [tk, tkm, tki] <;> omega
theorem tki_mul (l k : Int × Bool) : tki (tkm l k) = tkm (tki k) (tki l) := by
  obtain ⟨a, x⟩ := l
  obtain ⟨b, y⟩ := k
  cases x <;> cases y <;> simp [tk, tkm, tki] <;> omega
theorem tki_tki (l : Int × Bool) : tki (tki l) = l := by
  obtain ⟨a, x⟩ := l
  cases x <;> simp [tki]
/-- where two lines agree, among the places of a stretch -/
def mt (l k : Int × Bool) (s w : Int) : Int × Int := if l.2 = k.2 then (s, if l.1 = k.1 then w else 0) else
  ((if l.2 = true then l.1 - k.1 else k.1 - l.1) / 2, if (if l.2 = true then l.1 - k.1 else k.1 - l.1) % 2 = 0 ∧ s ≤ (if l.2 = true then l.1 - k.1 else k.1 - l.1) / 2 ∧ (if l.2 = true then l.1 - k.1 else k.1 - l.1) / 2 < s + w then 1 else 0)
theorem mt_ok {l k : Int × Bool} {s w u : Int} (h1 : s ≤ u) (h2 : u < s + w) : tk l u = tk k u ↔ (mt l k s w).1 ≤ u ∧ u < (mt l k s w).1 + (mt l k s w).2 := by
  obtain ⟨a, x⟩ := l
  obtain ⟨b, y⟩ := k
  by_cases e : x = y
  · subst e
    have m : mt (a, x) (b, x) s w = (s, if a = b then w else 0) := if_pos rfl
    rw [m]
    by_cases c : a = b
    · subst c
      simp only [if_true]
      exact ⟨fun _ => ⟨h1, h2⟩, fun _ => by first | rfl | trivial⟩
    · simp only [if_neg c]
      cases x <;> simp [tk] <;> omega
  · have m : mt (a, x) (b, y) s w = ((if x = true then a - b else b - a) / 2, if (if x = true then a - b else b - a) % 2 = 0 ∧ s ≤ (if x = true then a - b else b - a) / 2 ∧ (if x = true then a - b else b - a) / 2 < s + w then 1 else 0) := if_neg e
    rw [m]
    have q : tk (a, x) u = tk (b, y) u ↔ 2 * u = (if x = true then a - b else b - a) := by
      cases x <;> cases y <;> first | exact absurd rfl e | (simp [tk] <;> omega)
    rw [q]
    generalize (if x = true then a - b else b - a) = z
    by_cases c : z % 2 = 0 ∧ s ≤ z / 2 ∧ z / 2 < s + w
    · simp only [if_pos c]
      omega
    · simp only [if_neg c]
      omega
/-- equal points -/
theorem ne_pt {K : PySem.W.Frag} {H : Hp} {a b : Addr} {x y u v : Int} {Q : VK} (h : H a = some (.tup [.int x, .int y])) (h' : H b = some (.tup [.int u, .int v])) (e1 : x = u) (e2 : y = v) (q : Q (.bl false) H) : rNeD K (.ref a) (.ref b) H Q := by
  subst e1
  subst e2
  refine ⟨datP (x, y), datP (x, y), .tup (SqT.of h) (.cons (.int _) (.cons (.int _) .nil)), .tup (SqT.of h') (.cons (.int _) (.cons (.int _) .nil)), shaped_pt _, shaped_pt _, ?_⟩
  rw [eqv_pt, decide_eq_true rfl]
  exact q
theorem mt_comm (l k : Int × Bool) (s w : Int) : mt l k s w = mt k l s w := by
  obtain ⟨a, x⟩ := l
  obtain ⟨b, y⟩ := k
  by_cases e : x = y
  · subst e
    show (if x = x then _ else _) = (if x = x then _ else _)
    rw [if_pos rfl, if_pos rfl]
    by_cases c : a = b
    · subst c; rfl
    · have c' : ¬ b = a := fun z => c z.symm
      show (s, if a = b then w else 0) = (s, if b = a then w else 0)
      rw [if_neg c, if_neg c']
  · have e' : ¬ y = x := fun z => e z.symm
    unfold mt
    simp only [if_neg e, if_neg e']
    cases x <;> cases y <;> first | exact absurd rfl e | rfl
/-- where two maps agree, as a rectangle -/
abbrev mbox (l r l' r' : Int × Bool) (b : Box) : Box := ((mt l l' b.1 b.2.2.1).1, (mt r r' b.2.1 b.2.2.2).1, (mt l l' b.1 b.2.2.1).2, (mt r r' b.2.1 b.2.2.2).2)
theorem mbox_comm (l r l' r' : Int × Bool) (b : Box) : mbox l r l' r' b = mbox l' r' l r b := by
  unfold mbox
  rw [mt_comm l l', mt_comm r r']
theorem mbox_ok {l r l' r' : Int × Bool} {b : Box} {p : Int × Int} : InBox b p ∧ (tk l p.1 = tk l' p.1 ∧ tk r p.2 = tk r' p.2) ↔ InBox (mbox l r l' r' b) p ∧ InBox b p := by
  constructor
  · rintro ⟨h, c1, c2⟩
    have a := (mt_ok h.1 h.2.1).mp c1
    have b := (mt_ok h.2.2.1 h.2.2.2).mp c2
    exact ⟨⟨a.1, a.2, b.1, b.2⟩, h⟩
  · rintro ⟨c, h⟩
    exact ⟨h, (mt_ok h.1 h.2.1).mpr ⟨c.1, c.2.1⟩, (mt_ok h.2.2.1 h.2.2.2).mpr ⟨c.2.2.1, c.2.2.2⟩⟩
/-- the points that g keeps -/
def SiftF (g : Int × Int → Bool) (fs : List (Int × Int)) : PeT := fun i o H => ∃ p, fs[i]? = some p ∧ ((g p = true ∧ ∃ q, o = some (.ref q) ∧ RowAt H q p) ∨ (g p = false ∧ o = none))
theorem siftF_mono (g : Int × Int → Bool) (fs : List (Int × Int)) : Mono (SiftF g fs) := fun i o H H' e ⟨p, h, r⟩ => ⟨p, h, r.imp (fun ⟨a, q, c, d⟩ => ⟨a, q, c, e _ _ (fun xs => by intro z; cases z) d⟩) id⟩
theorem siftF_all {H : Hp} {g : Int × Int → Bool} : ∀ {os : List (Option V)} {fs : List (Int × Int)}, os.length = fs.length → (∀ (i : Nat) o, os[i]? = some o → SiftF g fs i o H) → ∃ qs : List Addr, os.filterMap id = qs.map V.ref ∧ Rows H qs (fs.filter g)
  | [], [], _, _ => ⟨[], rfl, .nil⟩
  | o :: os, p :: fs, hl, h => by
    obtain ⟨qs, e2, t⟩ := siftF_all (os := os) (fs := fs) (by simpa using hl) fun i z e => h (i + 1) z e
    obtain ⟨p', e, r⟩ := h 0 o rfl
    cases e
    rcases r with ⟨a, q, rfl, c⟩ | ⟨a, rfl⟩
    · exact ⟨q :: qs, by show V.ref q :: os.filterMap id = _; rw [e2]; rfl, by rw [List.filter_cons_of_pos a]; exact .cons c t⟩
    · exact ⟨qs, by show os.filterMap id = _; exact e2, by rw [List.filter_cons_of_neg (by rw [a]; exact Bool.false_ne_true)]; exact t⟩
  | [], _ :: _, hl, _ => by simp at hl
  | _ :: _, [], hl, _ => by simp at hl
theorem eq_pt {K : PySem.W.Frag} {H : Hp} {a b : Addr} {x y u v : Int} {Q : VK} (h : H a = some (.tup [.int x, .int y])) (h' : H b = some (.tup [.int u, .int v])) (q : Q (.bl (decide (x = u ∧ y = v))) H) : rEqD K (.ref a) (.ref b) H Q := by
  refine ⟨datP (x, y), datP (u, v), .tup (SqT.of h) (.cons (.int _) (.cons (.int _) .nil)), .tup (SqT.of h') (.cons (.int _) (.cons (.int _) .nil)), shaped_pt _, shaped_pt _, ?_⟩
  rw [eqv_pt, show decide ((x, y) = (u, v)) = decide (x = u ∧ y = v) from by rw [Bool.eq_iff_iff]; simp [Prod.ext_iff]]
  exact q
/-! what repr tells of a rectangle or None -/
def ovd : Option Box → PyData
  | none => .none
  | some c => .tuple [.int c.1, .int c.2.1, .int c.2.2.1, .int c.2.2.2]
def OvFine : Option Box → Prop
  | none => True
  | some c => (-100000000000000 ≤ c.1 ∧ c.1 ≤ 100000000000000) ∧ (-100000000000000 ≤ c.2.1 ∧ c.2.1 ≤ 100000000000000) ∧ (-100000000000000 ≤ c.2.2.1 ∧ c.2.2.1 ≤ 100000000000000) ∧ -100000000000000 ≤ c.2.2.2 ∧ c.2.2.2 ≤ 100000000000000
theorem ovd_nice {o : Option Box} (h : OvFine o) : Nice 8011 1 (ovd o) := by
  cases o with
  | none => exact Atm.non.nice.mono (by decide) (by decide)
  | some c =>
    obtain ⟨h1, h2, h3, h4⟩ := h
    refine (nice_tup (B := 2000) (D := 0) (n := 4) (ds := [.int c.1, .int c.2.1, .int c.2.2.1, .int c.2.2.2]) (fun x m => ?_) (Nat.le_refl 4)).mono (by decide) (by decide)
    rcases List.mem_cons.mp m with rfl | m
    · exact (atm_small h1.1 h1.2).nice
    rcases List.mem_cons.mp m with rfl | m
    · exact (atm_small h2.1 h2.2).nice
    rcases List.mem_cons.mp m with rfl | m
    · exact (atm_small h3.1 h3.2).nice
    rcases List.mem_cons.mp m with rfl | m
    · exact (atm_small h4.1 h4.2).nice
    cases m
theorem ovd_dp {K : PySem.W.Frag} {H : Hp} {v : V} {o : Option Box} (h : OvAt H v o) : Dp K H v (ovd o) := by
  cases o with
  | none =>
    obtain rfl : v = .non := h
    exact .non
  | some c =>
    obtain ⟨t, rfl, a⟩ := h
    exact .tup (SqT.of a) (.cons (.int _) (.cons (.int _) (.cons (.int _) (.cons (.int _) .nil))))
theorem dd_ov3 {K : PySem.W.Frag} {H : Hp} {a : Addr} {u v w : V} {o1 o2 o3 : Option Box} (h : H a = some (.lst [u, v, w])) (h1 : OvAt H u o1) (h2 : OvAt H v o2) (h3 : OvAt H w o3) (f1 : OvFine o1) (f2 : OvFine o2) (f3 : OvFine o3) :
    Dd K H (.ref a) (.list [ovd o1, ovd o2, ovd o3]) ∧ Shows (.list [ovd o1, ovd o2, ovd o3]) := by
  refine dd_nice (.lst (SqL.of h) (.cons (ovd_dp h1) (.cons (ovd_dp h2) (.cons (ovd_dp h3) .nil)))) ((nice_lst (B := 8011) (D := 1) (n := 3) (ds := [ovd o1, ovd o2, ovd o3]) (fun x m => ?_) (Nat.le_refl 3)).mono (by decide) (by decide))
  rcases List.mem_cons.mp m with rfl | m
  · exact ovd_nice f1
  rcases List.mem_cons.mp m with rfl | m
  · exact ovd_nice f2
  rcases List.mem_cons.mp m with rfl | m
  · exact ovd_nice f3
  cases m
theorem ovl_fine {a b : Box} (g : GoodBox b) : OvFine (ovl a b) := by
  obtain ⟨a1, a2, a3, a4⟩ := a
  obtain ⟨b1, b2, b3, b4⟩ := b
  obtain ⟨⟨h1, h2⟩, ⟨h3, h4⟩, ⟨h5, h6⟩, h7, h8⟩ := g
  simp only at h1 h2 h3 h4 h5 h6 h7 h8
  unfold ovl
  simp only
  by_cases c : min (a1 + a3) (b1 + b3) ≤ max a1 b1 ∨ min (a2 + a4) (b2 + b4) ≤ max a2 b2
  · rw [if_pos c]
    trivial
  · rw [if_neg c]
    exact ⟨⟨by dsimp only; omega, by dsimp only; omega⟩, ⟨by dsimp only; omega, by dsimp only; omega⟩, ⟨by dsimp only; omega, by dsimp only; omega⟩, by dsimp only; omega, by dsimp only; omega⟩
theorem mbox_sym {l r l' r' : Int × Bool} {b : Box} {H : Hp} {v : V} (h : OvAt H v (ovl (mbox l' r' l r b) b)) : OvAt H v (ovl (mbox l r l' r' b) b) := by
  rw [mbox_comm]
  exact h
end Lw
/-! Texts and own instances: repr and truth of an instance, an instance called by name, text * int, replace. -/
namespace Lw
open PySem PySem.Spec PyProof.Rows L2 Evl
section
variable {X : Cx} {CX : CXT} {k j : Nat} {C : Addr} {q x : Str} {st : Stmt} {ps ks : List Str} {sp : Sp} {E : XK} {apos pos p : Pos} {fe o e e2 : Expr} {es : List Expr} {kwe : List Keyword} {tf to te t2 : TE} {tks ta : TA} {r : R2}
theorem tru_ins (hb : PySem.W.findIn X.K (.ref C) "__bool__" = some none) (hl : PySem.W.findIn X.K (.ref C) "__len__" = some none) : TruR X (fun x H Q => ∃ a dx fs, x = .ref a ∧ H a = some (.ins C dx fs) ∧ Q true H) := by
  intro pins s σ H x v Q I rx h
  obtain ⟨a, dx, fs, rfl, ha, q⟩ := h
  cases rx
  obtain ⟨mA, J, _⟩ := ins_get I.hok ha
  obtain ⟨od, J, _⟩ := J.look
  obtain ⟨mm, hF⟩ := I.fr
  exact PySem.W.truthy_K0 hF I.ok.mod.kin J hb hl ⟨H, I, q⟩
/-- a test that is a value's truth, by any rule -/
theorem pt_truthR {e : Expr} {ta : TE} {r : V → Hp → (Bool → Hp → Prop) → Prop} (ha : PE X e ta) (hr : TruR X r) (he : ∀ whole, isTrue e X.env whole = (do let v ← whole; standAt e.pos; holding [v] (truthy v))) : PT X e (fun σ H Q => ta σ H fun x H' => r x H' Q) :=
  ⟨fun pins s σ H Q I h => isTrue_plain (thn (ha.run pins s σ H _ I h) fun v s1 ⟨x, H1, I1, r1, q1⟩ => hr pins s1 σ H1 x v Q I1 r1 q1) (he _)⟩
/-- repr(an instance) -/
theorem call_reprI (d : DefM X.prog X.w X.K X.mg X.base CX k C "__repr__" q st ps sp) (b : BndM "__repr__" q st ps) (hr : Room j X.A) (hj : k + 1 ≤ j) (hx : Passes CX X E) :
    CallR X (.builtin "repr") (fun xs H Q => ∃ a dx fs, xs = [.ref a] ∧ H a = some (.ins C dx fs) ∧ sp [.ref a] H (fun v H' => ∃ y, v = .str y ∧ Q (.str y) H') E) := by
  intro pins s σ H xs us Q I rv hq
  obtain ⟨a, dx, fs, rfl, ha, hs⟩ := hq
  obtain ⟨u, rfl, ru⟩ := vals1 rv
  cases ru
  obtain ⟨f, fd, M, fi, F, ok⟩ := d.ex
  obtain ⟨mA, J, _⟩ := ins_get I.hok ha
  obtain ⟨od, J, _⟩ := J.look
  obtain ⟨mm, hF⟩ := I.fr
  have X0 := I.kIn
  have hsz : [Value.ref a].length = ps.length := by
    have := (show Vals [V.ref a] [Value.ref a] from .cons rfl .nil).length
    rw [← this]
    exact ok.len _ _ _ _ hs
  refine PySem.W.repr_K (hr.mono hj).in1.units0 hF I.ok.mod.kin J M.at_ M.fn ?_
  have hb := (F.binds b) s [.ref a] X0 (by rw [List.append_nil]; exact hsz)
  rw [List.append_nil] at hb
  refine wpAny_call (codeAny_mono (ok.run X.A.in1 X.stack s H ⟨[.ref a], []⟩ [.ref a] [.ref a] _ E ((hr.mono hj).in1) I.env0.in1 hb (.cons rfl .nil) hs) fun r s' hq => ?_)
  cases r with
  | error e => exact hx pins σ H s e s' I hq
  | ok fl =>
    cases fl with
    | ret w' =>
      obtain ⟨z, H', I', rz, y, rfl, qq⟩ := I.after hq
      obtain ⟨t, rfl⟩ := (show ∃ t, w' = Value.str y t from rz)
      exact ⟨.str y, H', I', ⟨t, rfl⟩, qq⟩
    | next => exact False.elim hq
    | brk => exact False.elim hq
    | cont => exact False.elim hq
theorem callO_kw {M : Model} {A : Around} {E : Value → Shared → Prop} {s : Shared} {a : Addr} {pos : Pos} {Q : Value → Shared → Prop} {args : List (Bool × Sem Value)} {keywords : List (Option Str × Sem Value)} (hplain : (args.any (·.1) || keywords.any (·.1.isNone)) = false)
    (h : wpAny M A (evalArgs (.ref a) true args keywords) (fun z s₁ => (∃ C ox od, PySem.W.InstAt s₁.heap a ox C od ∧ ox.data = .plain) ∧ wpAny M A (call (.ref a) ([] ++ z.pos) z.kw) Q E s₁) E s) : wpAny M A (callWith pos (.ref a) [] args keywords) Q E s := by
  unfold callWith
  refine wpAny_bind (wpAny_holding (wpAny_mono h (fun z s₁ h₁ => wpAny_bind (wpAny_standAt ?_)) fun _ _ y => y))
  obtain ⟨⟨C, ox, od, J, hd⟩, h₁⟩ := h₁
  have L := PySem.W.kco_keeper (M := M) J hd
  simp only [hplain]
  refine wpAny_bind (L.here ?_)
  have tail : ∀ {t : Sem Value}, wpAny M A t Q E s₁ → wpAny M A (t >>= fun r => holding [r] point >>= fun _ => pure r) Q E s₁ :=
    fun ht => wpAny_bind (wpAny_mono ht (fun r s₂ hr => wpAny_bind (wpAny_holding (wpAny_point (wpAny_pure hr)))) fun _ _ y => y)
  exact tail (wpAny_operateT h₁)
/-- x(k = v, ..), x an instance -/
theorem pe_cok {g : {α : Type} → List α → List α → List α} (hf : PE X fe tf) (c : DefM X.prog X.w X.K X.mg X.base CX k C "__call__" q st ps sp) (b : BndMK "__call__" q st ps 1 ks g)
    (hrel : ∀ {vs zs : List V} {us ws : List Value}, Vals vs us → Vals zs ws → Vals (g vs zs) (g us ws)) (hr : Room j X.A) (hj : k ≤ j) (hx : Passes CX X E) (hkw : PK X kwe tks)
    (hall : (backToKw pos (keywordEach kwe X.env)).all (·.1.isSome) = true := by rfl) (hks : (backToKw pos (keywordEach kwe X.env)).filterMap (·.1) = ks := by rfl)
    (hpl : ((backTo pos (starEach [] X.env)).any (·.1) || (backToKw pos (keywordEach kwe X.env)).any (·.1.isNone)) = false := by rfl)
    (ht : eval (.Call fe [] kwe pos) X.env = (do callWith pos (← eval fe X.env) [] (backTo pos (starEach [] X.env)) (backToKw pos (keywordEach kwe X.env))) := by rfl) :
    PE X (.Call fe [] kwe pos) (fun σ H Q => tf σ H fun y H1 => ∃ a, y = V.ref a ∧ tks σ H1 fun zs H2 => (∃ dx fs, H2 a = some (.ins C dx fs)) ∧ zs.length = ks.length ∧ sp (g [V.ref a] zs) H2 Q E) := by
  obtain ⟨f, fd, M, fi, F, ok⟩ := c.ex
  obtain ⟨oc, od, kV, doc, pm, an, cdv, ct, osl, rfl, lk, hcd⟩ := F.ex
  have kb : KBn X.K (PySem.W.fnOf "__call__" q (defArgs st) (defBody st) (defScope st) .none kV doc pm an cdv ct) ps 1 ks (fun us ws => g us ws) (fun vs zs => g vs zs) := ⟨fun s us ws _ h1 h2 => .of_eq (b kV doc pm an cdv ct us ws h1 h2), hrel⟩
  refine ⟨fun pins s σ H Q I h => ?_⟩
  rw [ht]
  refine wpAny_bind (thn (hf.run pins s σ H _ I h) fun u s1 ⟨y, H1, I1, ry, a, ey, q⟩ => ?_)
  subst ey
  obtain rfl : u = Value.ref a := ry
  refine callO_kw hpl (evalArgs_kw2_nil hall (thn (hkw.run pos pins s1 σ H1 _ I1 q) fun ws s2 ⟨zs, H2, I2, rz, hi, l1, q2⟩ => ?_))
  obtain ⟨ox, od', J, hd⟩ := StX.insC_at I2 (.inr hi)
  refine ⟨⟨C, ox, od', J, hd⟩, ?_⟩
  have hwl : ws.length = ks.length := by rw [← rz.length]; exact l1
  rw [hks]
  refine wpAny_call (PySem.W.kco_code I2.kIn J hd M.at_ M.fn fi ?_)
  have hb := kb.1 s2 [.ref a] ws I2.kIn rfl hwl
  refine codeAny_mono (ok.run X.A X.stack s2 H2 ⟨[.ref a], ks.zip ws⟩ (g [.ref a] ws) (g [V.ref a] zs) _ E (hr.mono hj) I2.env0 hb (hrel (.cons rfl .nil) rz) q2) fun r s' hq => ?_
  cases r with
  | error e => exact hx pins σ H2 s2 e s' I2 hq
  | ok fl =>
    cases fl with
    | ret w' => exact I2.after hq
    | next => exact False.elim hq
    | brk => exact False.elim hq
    | cont => exact False.elim hq
/-- text * int -/
theorem op_mulS : OpR X (binaryOp .Mult) (fun x y H Q => ∃ z n, x = .str z ∧ y = .int n ∧ MulOk z n ∧ Q (.str (Txt.mul z n)) H) := by
  intro pins s σ H x y v u Q I rx ry h
  obtain ⟨z, n, rfl, rfl, ok, q⟩ := h
  obtain ⟨t, rfl⟩ := (show ∃ t, v = Value.str z t from rx)
  obtain ⟨t2, rfl⟩ := (show ∃ t, u = Value.int n t from ry)
  exact SB.mul ok fun t' k => ⟨.str _, H, I.tok k, ⟨t', rfl⟩, q⟩
/-! ### replace: the texts are not one object -/
/-- as PE, and behind it a token is out -/
def PEk (X : Cx) (e : Expr) (t : TE) : Prop := ∀ (pins : List (Addr × Obj)) (s : Shared) (σ : L2.St) (H : Hp) (Q : VK), Inv X pins σ H s → t σ H Q → wpAny (model X.prog X.w) X.A (eval e X.env) (fun v s' => 1 ≤ s'.toks ∧ EP X pins σ Q v s') X.xe s
theorem PEk.pe (h : PEk X e te) : PE X e te := ⟨fun pins s σ H Q I q => wpAny_mono (h pins s σ H Q I q) (fun _ _ z => z.2) fun _ _ z => z⟩
theorem pek_ix {i : Int} {n : Nat} {c : Pos} (hr : IxR X r) (ha : PE X o to) (hs : PlainIx (.Constant (.int i) n c)) : PEk X (.Subscript o (.Constant (.int i) n c) pos) (tOp r to (tC (.int i))) := by
  intro pins s σ H Q I h
  refine Subscript_ (thn (ha.run pins s σ H _ I h) fun v s1 ⟨x, H1, I1, r1, q1⟩ => wpAny_Constant_int ?_)
  exact wpAny_mono (wpAny_toks_of (n := 1) (by show 1 ≤ s1.toks + 1; omega) (hr o (.Constant (.int i) n c) pins _ σ H1 x (.int i) v _ Q (I1.tok _) r1 ⟨_, rfl⟩ q1 (hs _ _))) (fun _ _ z => z) fun _ _ z => z.2
theorem pek_call {st : Stmt} (c : Cl X.prog X.w X.K X.mg X.base CX k x st ps sp) (b : Bnd x st ps) (hr : Room j X.A) (hk : k ≤ j) (hg : Gl X x) (hx : Passes CX X E) (he : PEk X e te) (ha : PA X es ta)
    (hdb : (x == ("__debug__" : Str)) = false := by decide) (hs : starEach (e :: es) X.env = (false, eval e X.env) :: starEach es X.env := by rfl) (hpl : (backTo pos (starEach es X.env)).any (·.1) = false := by rfl) :
    PEk X (.Call (.Name x p) (e :: es) [] pos) (tCall sp [] E (tCons te ta)) := by
  obtain ⟨f, fd, F, o, m⟩ := c.ex
  intro pins s σ H Q I h
  refine wpAny_Call_Name_kw (ld_glob I hg m ?_ hdb)
  refine PySem.W.callWith_K (h₀ := X.base) I.ok.mod.kin F.kp ?_ hs hpl
  rw [hs]
  refine Calls.spliced_cons (wpAny_mono (he pins s σ H _ I h) (fun v s1 ⟨k1, z1⟩ => ?_) fun _ _ z => z)
  obtain ⟨y, H1, I1, r1, q1⟩ := z1
  refine wpAny_mono (wpAny_toks_of k1 (ha.run pos pins s1 σ H1 _ I1 q1)) (fun us s2 ⟨k2, z2⟩ => ?_) fun _ _ z => z.2
  obtain ⟨vs, H2, I2, r2, q2⟩ := z2
  exact ⟨I2.kIn, wpAny_mono (wpAny_toks_of k2 (run_fn o (hr.mono hk) (F.binds b) .nil hx I2 (.cons r1 r2) q2)) (fun _ _ z => z) fun _ _ z => z.2⟩
def tRepl (y : Str) (to t2 : TE) : TE := fun σ H Q => to σ H fun x H1 => ∃ z, x = .str z ∧ t2 σ H1 fun i H2 => ∃ m : Int, i = .int m ∧ m.natAbs.log2 < 1920 ∧ ((y == (toString m : Str)) = false) ∧ z.length + (z.length + 1) * ((toString m : Str)).length ≤ 16777216 ∧ Q (.str (Txt.replace z y (toString m : Str))) H2
/-- o.replace("y", str(e)) -/
theorem pek_repl {y sn : Str} {n : Nat} {c q1 q2 : Pos} (ho : PEk X o to) (h2 : PE X e2 t2) (hg : Gl X sn) (hm : X.mg sn = none) (hv : bootBuiltins sn = some (.type "str"))
    (hst : starEach [.Constant (.str y) n c, .Call (.Name sn q1) [e2] [] q2] X.env = [(false, eval (.Constant (.str y) n c) X.env), (false, eval (.Call (.Name sn q1) [e2] [] q2) X.env)] := by rfl)
    (hbase : attributeBase o "replace" X.env (eval o X.env) = eval o X.env := by rfl) (hline : (apos.endLine == pos.line) = true := by rfl) (hn : sn ≠ "__name__" := by decide) (hdb : (sn == ("__debug__" : Str)) = false := by decide)
    (he : starEach [e2] X.env = (false, eval e2 X.env) :: starEach [] X.env := by rfl) :
    PEk X (.Call (.Attribute o "replace" apos) [.Constant (.str y) n c, .Call (.Name sn q1) [e2] [] q2] [] pos) (tRepl y to t2) := by
  intro pins s σ H Q I h
  refine PySem.Call_method2 hbase hst hline (wpAny_mono (ho pins s σ H _ I h) (fun v s1 ⟨k1, z1⟩ => ?_) fun _ _ z => z)
  obtain ⟨x, H1, I1, r1, z, rfl, qq1⟩ := z1
  obtain ⟨t, rfl⟩ := (show ∃ t, v = Value.str z t from r1)
  refine ⟨"str", _, F.plainAttrs_str, F.slot_str_replace, F.type_str_replace, typeIs_str _ _ _, (fun _ e => nomatch e), Calls.callWith_builtin rfl (Calls.evalArgs_plain (Calls.spliced_cons ?_))⟩
  refine wpAny_Constant_str (Calls.spliced_cons ?_)
  refine wpAny_Call_Name_kw (ld_blt (I1.tok _) hg hm hv ?_ hn hdb)
  refine PyProof.Rows.callWith_type1 ?_ he rfl
  rw [he]
  refine Calls.spliced_cons (wpAny_mono (wpAny_toks_of (n := s1.toks + 1) (Nat.le_refl _) (h2.run pins _ σ H1 _ (I1.tok _) qq1)) (fun u s3 ⟨k3, z3⟩ => ?_) fun _ _ z => z.2)
  obtain ⟨i, H2, I2, r2, m, rfl, hz, hy, hb, qq⟩ := z3
  obtain ⟨t3, rfl⟩ := (show ∃ t, u = Value.int m t from r2)
  refine Calls.spliced_nil (PySem.P.str_of_int hz (Calls.spliced_nil ?_))
  have hu : s1.toks ≠ 0 := by omega
  have hv3 : s3.toks ≠ 0 := by omega
  have huv : s1.toks ≠ s3.toks := by omega
  refine wpAny_mono (wpAny_toks_of (n := 1) (by show 1 ≤ s3.toks + 1; omega) (PySem.SC.replace hu hv3 huv hy hb fun t' k => ?_)) (fun _ _ z => z) fun _ _ z => z.2
  exact ⟨.str (Txt.replace z y (toString m : Str)), H2, I2.tok k, ⟨t', rfl⟩, qq⟩
end
/-! ### lists of points -/
section
variable {K : PySem.W.Frag} {H : Hp} {l : Addr} {js : List Addr} {fs : List (Int × Int)} {Q : VK}
theorem srt_rows (hl : SqL K H l (js.map V.ref)) (rj : Rows H js fs) (q : ∀ p qs rs, H p = none → Rows H qs rs → rs.Perm fs → rs.Pairwise (fun a b => SrtO.lexB b a = false) → Q (.ref p) (upd H p (.lst (qs.map V.ref)))) : rSortedPO K [.ref l] H Q := by
  refine ⟨l, js.map V.ref, kOf H, rfl, hl, fun x m => ?_, fun ys p sy pm hn => ?_⟩
  · obtain ⟨r, mr, rfl⟩ := List.mem_map.mp m
    obtain ⟨pp, rp⟩ := rows_mem rj r mr
    exact ⟨r, rfl, by rw [kOf_row rp]; exact rp⟩
  obtain ⟨ey, pe⟩ := refs_perm pm.perm
  rw [ey] at sy ⊢
  have rz : Rows H (ys.map unref) ((ys.map unref).map fun a => kOf H (.ref a)) := rows_all fun b hb => rows_mem rj b (pe.mem_iff.mp hb)
  refine q p _ _ hn rz ?_ ?_
  · rw [rows_get rj]
    exact pe.map _
  · exact List.pairwise_map.mpr (List.pairwise_map.mp sy)
theorem eq_pts {a b : Addr} {qs rs : List Addr} {ps : List (Int × Int)} (ha : H a = some (.lst (qs.map V.ref))) (ra : Rows H qs ps) (hb : H b = some (.lst (rs.map V.ref))) (rb : Rows H rs ps) (q : Q (.bl true) H) : rEqD K (.ref a) (.ref b) H Q := by
  refine ⟨_, _, .lst (SqL.of ha) (dp_pts ra), .lst (SqL.of hb) (dp_pts rb), shaped_pts ps, shaped_pts ps, ?_⟩
  rw [SeqAt.eqv_refl _ (SeqAt.canLay_of_shaped (shaped_pts ps))]
  exact q
end
theorem lex_irr {p : Int × Int} : ¬ Lex p p := fun h => h.elim (fun z => Int.lt_irrefl _ z) fun z => Int.lt_irrefl _ z.2
theorem lex_uniq : ∀ {ps qs : List (Int × Int)}, ps.Pairwise Lex → qs.Pairwise Lex → (∀ p, p ∈ ps ↔ p ∈ qs) → ps = qs
  | [], [], _, _, _ => rfl
  | [], q :: qs, _, _, h => absurd ((h q).mpr List.mem_cons_self) List.not_mem_nil
  | p :: ps, [], _, _, h => absurd ((h p).mp List.mem_cons_self) List.not_mem_nil
  | p :: ps, q :: qs, h1, h2, h => by
    obtain ⟨a1, b1⟩ := List.pairwise_cons.mp h1
    obtain ⟨a2, b2⟩ := List.pairwise_cons.mp h2
    have asym : ∀ {x y : Int × Int}, Lex x y → Lex y x → False := fun {x y} u v => by
      unfold Lex at u v
      omega
    have e : p = q := by
      rcases List.mem_cons.mp ((h p).mp List.mem_cons_self) with e | m
      · exact e
      · rcases List.mem_cons.mp ((h q).mpr List.mem_cons_self) with e | m'
        · exact e.symm
        · exact absurd (asym (a2 p m) (a1 q m')) id
    subst e
    rw [lex_uniq b1 b2 fun x => ?_]
    have hx := h x
    constructor
    · intro m
      rcases List.mem_cons.mp (hx.mp (List.mem_cons_of_mem _ m)) with z | z
      · rw [z] at m
        exact absurd (a1 p m) lex_irr
      · exact z
    · intro m
      rcases List.mem_cons.mp (hx.mpr (List.mem_cons_of_mem _ m)) with z | z
      · rw [z] at m
        exact absurd (a2 p m) lex_irr
      · exact z
end Lw
local macro_rules | `(tactic| fail "side") => `(tactic| first
  | ((with_reducible show (0 : Int) < _); omega)
  | ((with_reducible show L2.CMul _ _); unfold L2.CMul; omega)
  | ((with_reducible show L2.CDiv _ _); unfold L2.CDiv; omega)
  | ((with_reducible show L2.CPow _ _); unfold L2.CPow; decide)
  | ((with_reducible show (_ : Nat) ≤ _); refine Nat.le_trans ?_ Lw.line_ge; simp only [List.length_cons, List.length_nil, Nat.zero_add, Nat.reduceAdd]; decide)
  | ((with_reducible show (_ : Nat) < _); refine Nat.lt_of_lt_of_le ?_ Lw.line_ge; simp only [List.length_cons, List.length_nil, Nat.zero_add, Nat.reduceAdd]; decide)
  | ((with_reducible show (_ : Int) < _); first | omega | decide)
  | ((with_reducible show (_ : Int) ≤ _); first | omega | decide | (split <;> omega))
  | (show (0 : Int) < _; omega))
local macro_rules | `(tactic| fail "at1") => `(tactic| first
  | (with_reducible assumption)
  | ((with_reducible show L2.upd _ _ _ _ = _); first | exact L2.upd_same | exact Lw.upd_new (by with_reducible assumption) (by fail "at1"))
  | ((with_reducible show Lw.Minus _ _ _ = _); exact Lw.minus_at (Lw.ne_fresh (by with_reducible assumption) (by fail "at1")) (by fail "at1"))
  | exact Lw.ex_at (by with_reducible assumption) (by fail "at1"))
local macro_rules | `(tactic| fail "at") => `(tactic| ((with_reducible show (_ : Option L2.HO) = _); fail "at1"))
local macro_rules | `(tactic| fail "pool1") => `(tactic| first
  | (with_reducible assumption)
  | ((with_reducible show Lw.Pool (L2.upd _ _ _) _); exact Lw.Pool.new (by with_reducible assumption) (by fail "pool1"))
  | exact Lw.Pool.up (by with_reducible assumption) (by fail "pool1"))
local macro_rules | `(tactic| fail "pool") => `(tactic| ((with_reducible show Lw.Pool _ _); fail "pool1"))
local macro_rules | `(tactic| fail "th1") => `(tactic| first
  | (with_reducible assumption)
  | ((with_reducible show Lw.Th (L2.upd _ _ _) _ _); exact Lw.Th.new (by with_reducible assumption) (by fail "th1"))
  | exact Lw.Th.up (by with_reducible assumption) (by fail "th1"))
local macro_rules | `(tactic| fail "th") => `(tactic| ((with_reducible show Lw.Th _ _ _); fail "th1"))
local macro_rules | `(tactic| fail "sql1") => `(tactic| first
  | (apply Lw.sqlK; (with_reducible assumption); rfl)
  | exact L2.SqL.of (by fail "at1")
  | ((with_reducible show L2.SqL _ (L2.upd _ _ _) _ _); exact Evl.ex_l (Evl.Ex.new (by with_reducible assumption)) (by fail "sql1"))
  | exact Evl.ex_l (by with_reducible assumption) (by fail "sql1"))
local macro_rules | `(tactic| fail "sql") => `(tactic| ((with_reducible show L2.SqL _ _ _ _); fail "sql1"))
local macro_rules | `(tactic| fail "tu1") => `(tactic| first
  | (with_reducible assumption)
  | ((with_reducible show Lw.Tu (L2.upd _ _ _) _ _); exact Lw.Tu.up (Evl.Ex.new (by with_reducible assumption)) (by fail "tu1"))
  | exact Lw.Tu.up (by with_reducible assumption) (by fail "tu1"))
local macro_rules | `(tactic| fail "sqt1") => `(tactic| first
  | (apply Lw.sqtK; (with_reducible assumption); rfl)
  | exact Lw.Tu.sq (by fail "tu1")
  | exact L2.SqT.of (by fail "at1")
  | ((with_reducible show L2.SqT _ (L2.upd _ _ _) _ _); exact Evl.ex_t (Evl.Ex.new (by with_reducible assumption)) (by fail "sqt1"))
  | exact Evl.ex_t (by with_reducible assumption) (by fail "sqt1"))
local macro_rules | `(tactic| fail "sqt") => `(tactic| ((with_reducible show L2.SqT _ _ _ _); fail "sqt1"))
local macro_rules | `(tactic| fail "kd1") => `(tactic| first
  | (with_reducible assumption) | exact Lw.Kd.int _ | exact Lw.Kd.bl _ | exact Lw.Kd.str _ | exact Lw.Kd.non
  | exact Lw.Kd.tup (by fail "at1") | exact Lw.Kd.fz (by fail "at1") | exact Lw.Kd.lst (by fail "at1") | exact Lw.Kd.dK (by fail "at1")
  | ((with_reducible show Lw.Kd (L2.upd _ _ _) _ _); exact Lw.Kd.new (by with_reducible assumption) (by fail "kd1"))
  | exact Lw.Kd.up (by with_reducible assumption) (by fail "kd1"))
local macro_rules | `(tactic| fail "kd") => `(tactic| ((with_reducible show Lw.Kd _ _ _); fail "kd1"))
local macro_rules | `(tactic| fail "ati") => `(tactic| first
  | (with_reducible assumption)
  | ((with_reducible show L2.atI _ 0 = _); rfl)
  | ((with_reducible show L2.atI _ 1 = _); rfl)
  | ((with_reducible show L2.atI _ 2 = _); rfl)
  | ((with_reducible show L2.atI _ 3 = _); rfl)
  | ((with_reducible show L2.atI _ (-1) = _); rfl))
local macro_rules | `(tactic| fail "st") => `(tactic| first
  | (refine ⟨_, rfl, ?_⟩)
  | (refine ⟨_, _, rfl, rfl, ?_⟩)
  | (refine ⟨_, _, _, _, rfl, rfl, (by fail "sql"), (by fail "ati"), ?_⟩)
  | (refine ⟨_, _, _, _, rfl, rfl, (by fail "sqt"), (by fail "ati"), ?_⟩)
  | (refine ⟨_, _, _, _, rfl, rfl, (by fail "at"), rfl, ?_⟩)
  | (refine Or.inl ⟨_, _, _, _, rfl, rfl, (by fail "sql"), (by fail "ati"), ?_⟩)
  | (refine Or.inr (Or.inl ⟨_, _, _, _, rfl, rfl, (by fail "sqt"), (by fail "ati"), ?_⟩))
  | (refine ⟨_, _, _, _, rfl, (by fail "kd"), ?_⟩)
  | (refine ⟨_, _, rfl, Or.inl ⟨_, (by fail "sql"), rfl⟩, ?_⟩)
  | (refine ⟨_, _, rfl, Or.inr ⟨_, (by fail "sqt"), rfl⟩, ?_⟩)
  | (refine ⟨_, _, rfl, (by fail "sqt"), rfl, ?_⟩)
  | (refine ⟨_, _, rfl, (by fail "kd"), ?_⟩)
  | (refine ⟨_, _, rfl, (by fail "th"), ?_⟩)
  | (refine ⟨_, _, rfl, (by fail "sql"), ?_⟩)
  | (refine ⟨_, _, rfl, (by fail "sqt"), ?_⟩)
  | (refine ⟨(by fail "side"), ?_⟩)
  | (refine ⟨(by fail "pool"), ?_⟩)
  | (refine ⟨⟨_, (by fail "sqt")⟩, ?_⟩)
  | (refine ⟨⟨_, (by fail "sql")⟩, ?_⟩)
  | (refine ⟨_, _, rfl, ?_⟩)
  | (refine ⟨rfl, ?_⟩)
  | (refine ⟨_, _, _, _, _, rfl, L2.ClsV.ty _, Lw.Kd.ty (by fail "kd"), Lw.kit_k (by fail "kd") (by decide), ?_⟩))
namespace K06
open PySem PySem.Spec PyProof.Rows L2 Evl Lw
def topS (i : Nat) : Stmt := PySem.Challenge.pw_allscreens_k06_mirrors_by_points.main.body.getD i (.Pass ⟨0, 0, 0, 0⟩)
abbrev s_wall : Stmt := topS 0
abbrev N_wall : List Str := ["k"]
theorem sc_wall : FnScope N_wall ["k"] (defScope s_wall) := ⟨rfl, rfl, rfl, by decide +kernel, rfl, by decide +kernel, by decide +kernel⟩
theorem b_wall : Lw.Bnd "_wall" s_wall ["k"] := fun _ _ _ _ _ _ us hl => match us, hl with | [_], _ => rfl
abbrev s_InvalidRect___init__ : Stmt := inClass (topS 3) 0
abbrev N_InvalidRect___init__ : List Str := ["self", "value"]
theorem sc_InvalidRect___init__ : FnScope N_InvalidRect___init__ ["self", "value"] (defScope s_InvalidRect___init__) := ⟨rfl, rfl, rfl, by decide +kernel, rfl, by decide +kernel, by decide +kernel⟩
abbrev s_InvalidNumber___init__ : Stmt := inClass (topS 4) 0
abbrev N_InvalidNumber___init__ : List Str := ["self", "value"]
theorem sc_InvalidNumber___init__ : FnScope N_InvalidNumber___init__ ["self", "value"] (defScope s_InvalidNumber___init__) := ⟨rfl, rfl, rfl, by decide +kernel, rfl, by decide +kernel, by decide +kernel⟩
abbrev s_is_integer : Stmt := topS 7
abbrev N_is_integer : List Str := ["value"]
theorem sc_is_integer : FnScope N_is_integer ["value"] (defScope s_is_integer) := ⟨rfl, rfl, rfl, by decide +kernel, rfl, by decide +kernel, by decide +kernel⟩
theorem b_is_integer : Lw.Bnd "is_integer" s_is_integer ["value"] := fun _ _ _ _ _ _ us hl => match us, hl with | [_], _ => rfl
abbrev s_is_between : Stmt := topS 8
abbrev N_is_between : List Str := ["value", "low", "high"]
theorem sc_is_between : FnScope N_is_between ["value", "low", "high"] (defScope s_is_between) := ⟨rfl, rfl, rfl, by decide +kernel, rfl, by decide +kernel, by decide +kernel⟩
theorem b_is_between : Lw.Bnd "is_between" s_is_between ["value", "low", "high"] := fun _ _ _ _ _ _ us hl => match us, hl with | [_, _, _], _ => rfl
abbrev s_is_number : Stmt := topS 9
abbrev N_is_number : List Str := ["value"]
theorem sc_is_number : FnScope N_is_number ["value"] (defScope s_is_number) := ⟨rfl, rfl, rfl, by decide +kernel, rfl, by decide +kernel, by decide +kernel⟩
theorem b_is_number : Lw.Bnd "is_number" s_is_number ["value"] := fun _ _ _ _ _ _ us hl => match us, hl with | [_], _ => rfl
abbrev s_is_rect : Stmt := topS 11
abbrev N_is_rect : List Str := ["value"]
theorem sc_is_rect : FnScope N_is_rect ["value"] (defScope s_is_rect) := ⟨rfl, rfl, rfl, by decide +kernel, rfl, by decide +kernel, by decide +kernel⟩
theorem b_is_rect : Lw.Bnd "is_rect" s_is_rect ["value"] := fun _ _ _ _ _ _ us hl => match us, hl with | [_], _ => rfl
abbrev s_check_rect : Stmt := topS 12
abbrev N_check_rect : List Str := ["value"]
theorem sc_check_rect : FnScope N_check_rect ["value"] (defScope s_check_rect) := ⟨rfl, rfl, rfl, by decide +kernel, rfl, by decide +kernel, by decide +kernel⟩
theorem b_check_rect : Lw.Bnd "check_rect" s_check_rect ["value"] := fun _ _ _ _ _ _ us hl => match us, hl with | [_], _ => rfl
abbrev s_line_start : Stmt := topS 14
abbrev N_line_start : List Str := ["start", "extent", "offset", "turned"]
theorem sc_line_start : FnScope N_line_start ["start", "extent", "offset", "turned"] (defScope s_line_start) := ⟨rfl, rfl, rfl, by decide +kernel, rfl, by decide +kernel, by decide +kernel⟩
theorem b_line_start : Lw.Bnd "line_start" s_line_start ["start", "extent", "offset", "turned"] := fun _ _ _ _ _ _ us hl => match us, hl with | [_, _, _, _], _ => rfl
abbrev s_Mirror___init__ : Stmt := inClass (topS 15) 0
abbrev N_Mirror___init__ : List Str := ["self", "x", "y", "across", "down"]
theorem sc_Mirror___init__ : FnScope N_Mirror___init__ ["self", "x", "y", "across", "down"] (defScope s_Mirror___init__) := ⟨rfl, rfl, rfl, by decide +kernel, rfl, by decide +kernel, by decide +kernel⟩
abbrev s_Mirror___call__ : Stmt := inClass (topS 15) 1
abbrev N_Mirror___call__ : List Str := ["self", "u", "v", "x", "across", "y", "down"]
theorem sc_Mirror___call__ : FnScope N_Mirror___call__ ["self", "u", "v"] (defScope s_Mirror___call__) := ⟨rfl, rfl, rfl, by decide +kernel, rfl, by decide +kernel, by decide +kernel⟩
abbrev s_Mirror___eq__ : Stmt := inClass (topS 15) 2
abbrev N_Mirror___eq__ : List Str := ["self", "other"]
theorem sc_Mirror___eq__ : FnScope N_Mirror___eq__ ["self", "other"] (defScope s_Mirror___eq__) := ⟨rfl, rfl, rfl, by decide +kernel, rfl, by decide +kernel, by decide +kernel⟩
abbrev s_Mirror___mul__ : Stmt := inClass (topS 15) 3
abbrev N_Mirror___mul__ : List Str := ["self", "other", "x", "across", "y", "down", "u", "over", "v", "below"]
theorem sc_Mirror___mul__ : FnScope N_Mirror___mul__ ["self", "other"] (defScope s_Mirror___mul__) := ⟨rfl, rfl, rfl, by decide +kernel, rfl, by decide +kernel, by decide +kernel⟩
abbrev s_Mirror___invert__ : Stmt := inClass (topS 15) 4
abbrev N_Mirror___invert__ : List Str := ["self", "x", "across", "y", "down"]
theorem sc_Mirror___invert__ : FnScope N_Mirror___invert__ ["self"] (defScope s_Mirror___invert__) := ⟨rfl, rfl, rfl, by decide +kernel, rfl, by decide +kernel, by decide +kernel⟩
abbrev s_Mirror___repr__ : Stmt := inClass (topS 15) 5
abbrev N_Mirror___repr__ : List Str := ["self", "x", "across", "y", "down", "ways", "word", "is_so"]
theorem sc_Mirror___repr__ : FnScope N_Mirror___repr__ ["self"] (defScope s_Mirror___repr__) := ⟨rfl, rfl, rfl, by decide +kernel, rfl, by decide +kernel, by decide +kernel⟩
abbrev s_Mirror_image : Stmt := inClass (topS 15) 6
abbrev N_Mirror_image : List Str := ["self", "rect"]
theorem sc_Mirror_image : FnScope N_Mirror_image ["self", "rect"] (defScope s_Mirror_image) := ⟨rfl, rfl, rfl, by decide +kernel, rfl, by decide +kernel, by decide +kernel⟩
abbrev s_Mirror_moved : Stmt := inClass (topS 15) 7
abbrev N_Mirror_moved : List Str := ["self", "rect", "x", "across", "y", "down"]
theorem sc_Mirror_moved : FnScope N_Mirror_moved ["self", "rect"] (defScope s_Mirror_moved) := ⟨rfl, rfl, rfl, by decide +kernel, rfl, by decide +kernel, by decide +kernel⟩
abbrev s_Mirror_meets : Stmt := inClass (topS 15) 8
abbrev N_Mirror_meets : List Str := ["self", "other_mirror", "rect"]
theorem sc_Mirror_meets : FnScope N_Mirror_meets ["self", "other_mirror", "rect"] (defScope s_Mirror_meets) := ⟨rfl, rfl, rfl, by decide +kernel, rfl, by decide +kernel, by decide +kernel⟩
abbrev s_Mirror_agrees : Stmt := inClass (topS 15) 9
abbrev N_Mirror_agrees : List Str := ["self", "other_mirror", "rect"]
theorem sc_Mirror_agrees : FnScope N_Mirror_agrees ["self", "other_mirror", "rect"] (defScope s_Mirror_agrees) := ⟨rfl, rfl, rfl, by decide +kernel, rfl, by decide +kernel, by decide +kernel⟩
abbrev s_law_cell : Stmt := topS 17
abbrev N_law_cell : List Str := ["_law_script", "_law_k", "_law_state_here", "_law_cell_here"]
theorem sc_law_cell : FnScope N_law_cell ["_law_script", "_law_k"] (defScope s_law_cell) := ⟨rfl, rfl, rfl, by decide +kernel, rfl, by decide +kernel, by decide +kernel⟩
theorem b_law_cell : Lw.Bnd "_law_cell" s_law_cell ["_law_script", "_law_k"] := fun _ _ _ _ _ _ us hl => match us, hl with | [_, _], _ => rfl
abbrev s_law_pool : Stmt := topS 18
abbrev N_law_pool : List Str := ["_law_cell_here", "_law_digits"]
theorem sc_law_pool : FnScope N_law_pool ["_law_cell_here"] (defScope s_law_pool) := ⟨rfl, rfl, rfl, by decide +kernel, rfl, by decide +kernel, by decide +kernel⟩
theorem b_law_pool : Lw.Bnd "_law_pool" s_law_pool ["_law_cell_here"] := fun _ _ _ _ _ _ us hl => match us, hl with | [_], _ => rfl
abbrev s_law_draw : Stmt := topS 19
abbrev N_law_draw : List Str := ["_law_pool_here", "_law_many", "_law_old", "_law_digit"]
theorem sc_law_draw : FnScope N_law_draw ["_law_pool_here", "_law_many"] (defScope s_law_draw) := ⟨rfl, rfl, rfl, by decide +kernel, rfl, by decide +kernel, by decide +kernel⟩
theorem b_law_draw : Lw.Bnd "_law_draw" s_law_draw ["_law_pool_here", "_law_many"] := fun _ _ _ _ _ _ us hl => match us, hl with | [_, _], _ => rfl
abbrev s_law_box : Stmt := topS 20
abbrev N_law_box : List Str := ["_law_pool_here"]
theorem sc_law_box : FnScope N_law_box ["_law_pool_here"] (defScope s_law_box) := ⟨rfl, rfl, rfl, by decide +kernel, rfl, by decide +kernel, by decide +kernel⟩
theorem b_law_box : Lw.Bnd "_law_box" s_law_box ["_law_pool_here"] := fun _ _ _ _ _ _ us hl => match us, hl with | [_], _ => rfl
abbrev s_law_spots : Stmt := topS 21
abbrev N_law_spots : List Str := ["_law_some", "_law_found", "_law_left", "_law_top", "_law_wide", "_law_high", "_law_spot"]
theorem sc_law_spots : FnScope N_law_spots ["_law_some"] (defScope s_law_spots) := ⟨rfl, rfl, rfl, by decide +kernel, rfl, by decide +kernel, by decide +kernel⟩
theorem b_law_spots : Lw.Bnd "_law_spots" s_law_spots ["_law_some"] := fun _ _ _ _ _ _ us hl => match us, hl with | [_], _ => rfl
abbrev s_law_mirror : Stmt := topS 22
abbrev N_law_mirror : List Str := ["_law_pool_here", "_law_far", "_law_p", "_law_q", "_law_way"]
theorem sc_law_mirror : FnScope N_law_mirror ["_law_pool_here", "_law_far"] (defScope s_law_mirror) := ⟨rfl, rfl, rfl, by decide +kernel, rfl, by decide +kernel, by decide +kernel⟩
theorem b_law_mirror : Lw.Bnd "_law_mirror" s_law_mirror ["_law_pool_here", "_law_far"] := fun _ _ _ _ _ _ us hl => match us, hl with | [_, _], _ => rfl
abbrev s_law_taken : Stmt := topS 23
abbrev N_law_taken : List Str := ["_law_line", "_law_place"]
theorem sc_law_taken : FnScope N_law_taken ["_law_line", "_law_place"] (defScope s_law_taken) := ⟨rfl, rfl, rfl, by decide +kernel, rfl, by decide +kernel, by decide +kernel⟩
theorem b_law_taken : Lw.Bnd "_law_taken" s_law_taken ["_law_line", "_law_place"] := fun _ _ _ _ _ _ us hl => match us, hl with | [_, _], _ => rfl
abbrev s_law_words : Stmt := topS 24
abbrev N_law_words : List Str := ["_law_over", "_law_below", "_law_word"]
theorem sc_law_words : FnScope N_law_words ["_law_over", "_law_below"] (defScope s_law_words) := ⟨rfl, rfl, rfl, by decide +kernel, rfl, by decide +kernel, by decide +kernel⟩
theorem b_law_words : Lw.Bnd "_law_words" s_law_words ["_law_over", "_law_below"] := fun _ _ _ _ _ _ us hl => match us, hl with | [_, _], _ => rfl
abbrev s_law_image_right : Stmt := topS 25
abbrev N_law_image_right : List Str := ["_law_map_here", "_law_over", "_law_below", "_law_box_here", "_law_told", "_law_far", "_law_p", "_law_q"]
theorem sc_law_image_right : FnScope N_law_image_right ["_law_map_here", "_law_over", "_law_below", "_law_box_here"] (defScope s_law_image_right) := ⟨rfl, rfl, rfl, by decide +kernel, rfl, by decide +kernel, by decide +kernel⟩
theorem b_law_image_right : Lw.Bnd "_law_image_right" s_law_image_right ["_law_map_here", "_law_over", "_law_below", "_law_box_here"] := fun _ _ _ _ _ _ us hl => match us, hl with | [_, _, _, _], _ => rfl
abbrev s_law_empty_right : Stmt := topS 26
abbrev N_law_empty_right : List Str := ["_law_over", "_law_below", "_law_box_here", "_law_told", "_law_left", "_law_top"]
theorem sc_law_empty_right : FnScope N_law_empty_right ["_law_over", "_law_below", "_law_box_here"] (defScope s_law_empty_right) := ⟨rfl, rfl, rfl, by decide +kernel, rfl, by decide +kernel, by decide +kernel⟩
theorem b_law_empty_right : Lw.Bnd "_law_empty_right" s_law_empty_right ["_law_over", "_law_below", "_law_box_here"] := fun _ _ _ _ _ _ us hl => match us, hl with | [_, _, _], _ => rfl
abbrev s_law_right : Stmt := topS 27
abbrev N_law_right : List Str := ["_law_pool_here", "_law_map_here", "_law_over", "_law_below", "_law_turn", "_law_m", "_law_n", "_law_due", "_law_box_here", "_law_words_here", "_law_mate", "_law_over_mate", "_law_below_mate", "_law_near", "_law_equal"]
theorem sc_law_right : FnScope N_law_right ["_law_pool_here"] (defScope s_law_right) := ⟨rfl, rfl, rfl, by decide +kernel, rfl, by decide +kernel, by decide +kernel⟩
theorem b_law_right : Lw.Bnd "_law_right" s_law_right ["_law_pool_here"] := fun _ _ _ _ _ _ us hl => match us, hl with | [_], _ => rfl
abbrev s_law_plain_right : Stmt := topS 28
abbrev N_law_plain_right : List Str := ["_law_pool_here", "_law_p", "_law_q", "_law_plain", "_law_some", "_law_mate"]
theorem sc_law_plain_right : FnScope N_law_plain_right ["_law_pool_here"] (defScope s_law_plain_right) := ⟨rfl, rfl, rfl, by decide +kernel, rfl, by decide +kernel, by decide +kernel⟩
theorem b_law_plain_right : Lw.Bnd "_law_plain_right" s_law_plain_right ["_law_pool_here"] := fun _ _ _ _ _ _ us hl => match us, hl with | [_], _ => rfl
abbrev s_law : Stmt := topS 29
abbrev N_law : List Str := ["_law_script", "_law_k", "_law_pool_here", "_law_turn"]
theorem sc_law : FnScope N_law ["_law_script"] (defScope s_law) := ⟨rfl, rfl, rfl, by decide +kernel, rfl, by decide +kernel, by decide +kernel⟩
theorem b_law : Lw.Bnd "law" s_law ["_law_script"] := fun _ _ _ _ _ _ us hl => match us, hl with | [_], _ => rfl
theorem bt_ValueError : bootBuiltins "ValueError" = some (.type "ValueError") := by decide +kernel
theorem bt_abs : bootBuiltins "abs" = some (.builtin "abs") := by decide +kernel
theorem bt_all : bootBuiltins "all" = some (.builtin "all") := by decide +kernel
theorem bt_bool : bootBuiltins "bool" = some (.type "bool") := by decide +kernel
theorem bt_divmod : bootBuiltins "divmod" = some (.builtin "divmod") := by decide +kernel
theorem bt_int : bootBuiltins "int" = some (.type "int") := by decide +kernel
theorem bt_isinstance : bootBuiltins "isinstance" = some (.builtin "isinstance") := by decide +kernel
theorem bt_len : bootBuiltins "len" = some (.builtin "len") := by decide +kernel
theorem bt_max : bootBuiltins "max" = some (.builtin "max") := by decide +kernel
theorem bt_min : bootBuiltins "min" = some (.builtin "min") := by decide +kernel
theorem bt_range : bootBuiltins "range" = some (.type "range") := by decide +kernel
theorem bt_repr : bootBuiltins "repr" = some (.builtin "repr") := by decide +kernel
theorem bt_sorted : bootBuiltins "sorted" = some (.builtin "sorted") := by decide +kernel
theorem bt_str : bootBuiltins "str" = some (.type "str") := by decide +kernel
theorem bt_tuple : bootBuiltins "tuple" = some (.type "tuple") := by decide +kernel
theorem bm_Mirror___call__ : Lw.BndM "__call__" "Mirror.__call__" s_Mirror___call__ ["self", "u", "v"] := fun _ _ _ _ _ _ us hl => match us, hl with | [_, _, _], _ => rfl
theorem bm_Mirror___eq__ : Lw.BndM "__eq__" "Mirror.__eq__" s_Mirror___eq__ ["self", "other"] := fun _ _ _ _ _ _ us hl => match us, hl with | [_, _], _ => rfl
theorem bm_Mirror___mul__ : Lw.BndM "__mul__" "Mirror.__mul__" s_Mirror___mul__ ["self", "other"] := fun _ _ _ _ _ _ us hl => match us, hl with | [_, _], _ => rfl
theorem bm_Mirror___invert__ : Lw.BndM "__invert__" "Mirror.__invert__" s_Mirror___invert__ ["self"] := fun _ _ _ _ _ _ us hl => match us, hl with | [_], _ => rfl
theorem bm_Mirror___repr__ : Lw.BndM "__repr__" "Mirror.__repr__" s_Mirror___repr__ ["self"] := fun _ _ _ _ _ _ us hl => match us, hl with | [_], _ => rfl
theorem bm_Mirror_image : Lw.BndM "image" "Mirror.image" s_Mirror_image ["self", "rect"] := fun _ _ _ _ _ _ us hl => match us, hl with | [_, _], _ => rfl
theorem bm_Mirror_moved : Lw.BndM "moved" "Mirror.moved" s_Mirror_moved ["self", "rect"] := fun _ _ _ _ _ _ us hl => match us, hl with | [_, _], _ => rfl
theorem bm_Mirror_meets : Lw.BndM "meets" "Mirror.meets" s_Mirror_meets ["self", "other_mirror", "rect"] := fun _ _ _ _ _ _ us hl => match us, hl with | [_, _, _], _ => rfl
theorem bm_Mirror_agrees : Lw.BndM "agrees" "Mirror.agrees" s_Mirror_agrees ["self", "other_mirror", "rect"] := fun _ _ _ _ _ _ us hl => match us, hl with | [_, _, _], _ => rfl
def gk_bq_Mirror_image_rect {α : Type} : List α → List α → List α | [u0], [z0] => [u0, z0] | _, _ => []
theorem rk_bq_Mirror_image_rect {a0 a1 : List V} {b0 b1 : List Value} (h0 : Vals a0 b0) (h1 : Vals a1 b1) : Vals (gk_bq_Mirror_image_rect a0 a1) (gk_bq_Mirror_image_rect b0 b1) := by
  have l0 := Paired.length h0
  have l1 := Paired.length h1
  by_cases hh : a0.length = 1 ∧ a1.length = 1
  · obtain ⟨k0, k1⟩ := hh
    match a0, b0, h0, k0, a1, b1, h1, k1 with
    | [_], [_], .cons x0a (.nil), _, [_], [_], .cons x1a (.nil), _ => exact .cons x0a (.cons x1a (.nil))
  · have e1 : gk_bq_Mirror_image_rect a0 a1 = [] := by
      unfold gk_bq_Mirror_image_rect; split
      · exact absurd ⟨rfl, rfl⟩ hh
      · rfl
    have hb : ¬ (b0.length = 1 ∧ b1.length = 1) := by
      rw [← l0, ← l1]
      exact hh
    have e2 : gk_bq_Mirror_image_rect b0 b1 = [] := by
      unfold gk_bq_Mirror_image_rect; split
      · exact absurd ⟨rfl, rfl⟩ hb
      · rfl
    rw [e1, e2]
    exact .nil
theorem bq_Mirror_image_rect : Lw.BndMK "image" "Mirror.image" s_Mirror_image ["self", "rect"] 1 ["rect"] (fun {_} => gk_bq_Mirror_image_rect) := fun _ _ _ _ _ _ us ws h1 h2 => match us, h1, ws, h2 with | [_], _, [_], _ => rfl
def gk_bq_Mirror___call___v_u {α : Type} : List α → List α → List α | [u0], [z0, z1] => [u0, z1, z0] | _, _ => []
theorem rk_bq_Mirror___call___v_u {a0 a1 : List V} {b0 b1 : List Value} (h0 : Vals a0 b0) (h1 : Vals a1 b1) : Vals (gk_bq_Mirror___call___v_u a0 a1) (gk_bq_Mirror___call___v_u b0 b1) := by
  have l0 := Paired.length h0
  have l1 := Paired.length h1
  by_cases hh : a0.length = 1 ∧ a1.length = 2
  · obtain ⟨k0, k1⟩ := hh
    match a0, b0, h0, k0, a1, b1, h1, k1 with
    | [_], [_], .cons x0a (.nil), _, [_, _], [_, _], .cons x1a (.cons x1b (.nil)), _ => exact .cons x0a (.cons x1b (.cons x1a (.nil)))
  · have e1 : gk_bq_Mirror___call___v_u a0 a1 = [] := by
      unfold gk_bq_Mirror___call___v_u; split
      · exact absurd ⟨rfl, rfl⟩ hh
      · rfl
    have hb : ¬ (b0.length = 1 ∧ b1.length = 2) := by
      rw [← l0, ← l1]
      exact hh
    have e2 : gk_bq_Mirror___call___v_u b0 b1 = [] := by
      unfold gk_bq_Mirror___call___v_u; split
      · exact absurd ⟨rfl, rfl⟩ hb
      · rfl
    rw [e1, e2]
    exact .nil
theorem bq_Mirror___call___v_u : Lw.BndMK "__call__" "Mirror.__call__" s_Mirror___call__ ["self", "u", "v"] 1 ["v", "u"] (fun {_} => gk_bq_Mirror___call___v_u) := fun _ _ _ _ _ _ us ws h1 h2 => match us, h1, ws, h2 with | [_], _, [_, _], _ => rfl
def gk_bi_Mirror___init___2_across_down {α : Type} : List α → List α → List α → List α | [u0, u1, u2], [], [z0, z1] => [u0, u1, u2, z0, z1] | _, _, _ => []
theorem rk_bi_Mirror___init___2_across_down {a0 a1 a2 : List V} {b0 b1 b2 : List Value} (h0 : Vals a0 b0) (h1 : Vals a1 b1) (h2 : Vals a2 b2) : Vals (gk_bi_Mirror___init___2_across_down a0 a1 a2) (gk_bi_Mirror___init___2_across_down b0 b1 b2) := by
  have l0 := Paired.length h0
  have l1 := Paired.length h1
  have l2 := Paired.length h2
  by_cases hh : a0.length = 3 ∧ a1.length = 0 ∧ a2.length = 2
  · obtain ⟨k0, k1, k2⟩ := hh
    match a0, b0, h0, k0, a1, b1, h1, k1, a2, b2, h2, k2 with
    | [_, _, _], [_, _, _], .cons x0a (.cons x0b (.cons x0c (.nil))), _, [], [], .nil, _, [_, _], [_, _], .cons x2a (.cons x2b (.nil)), _ => exact .cons x0a (.cons x0b (.cons x0c (.cons x2a (.cons x2b (.nil)))))
  · have e1 : gk_bi_Mirror___init___2_across_down a0 a1 a2 = [] := by
      unfold gk_bi_Mirror___init___2_across_down; split
      · exact absurd ⟨rfl, rfl, rfl⟩ hh
      · rfl
    have hb : ¬ (b0.length = 3 ∧ b1.length = 0 ∧ b2.length = 2) := by
      rw [← l0, ← l1, ← l2]
      exact hh
    have e2 : gk_bi_Mirror___init___2_across_down b0 b1 b2 = [] := by
      unfold gk_bi_Mirror___init___2_across_down; split
      · exact absurd ⟨rfl, rfl, rfl⟩ hb
      · rfl
    rw [e1, e2]
    exact .nil
theorem bi_Mirror___init___2_across_down : Lw.BndI "Mirror.__init__" s_Mirror___init__ ["self", "x", "y", "across", "down"] 3 ["across", "down"] [] (fun {_} => gk_bi_Mirror___init___2_across_down) := fun _ _ _ _ _ _ us mv ws h1 h2 h3 => match us, h1, mv, h2, ws, h3 with | [_, _, _], _, [], _, [_, _], _ => rfl
def gk_bi_Mirror___init___2_across {α : Type} : List α → List α → List α → List α | [u0, u1, u2], [m0], [z0] => [u0, u1, u2, z0, m0] | _, _, _ => []
theorem rk_bi_Mirror___init___2_across {a0 a1 a2 : List V} {b0 b1 b2 : List Value} (h0 : Vals a0 b0) (h1 : Vals a1 b1) (h2 : Vals a2 b2) : Vals (gk_bi_Mirror___init___2_across a0 a1 a2) (gk_bi_Mirror___init___2_across b0 b1 b2) := by
  have l0 := Paired.length h0
  have l1 := Paired.length h1
  have l2 := Paired.length h2
  by_cases hh : a0.length = 3 ∧ a1.length = 1 ∧ a2.length = 1
  · obtain ⟨k0, k1, k2⟩ := hh
    match a0, b0, h0, k0, a1, b1, h1, k1, a2, b2, h2, k2 with
    | [_, _, _], [_, _, _], .cons x0a (.cons x0b (.cons x0c (.nil))), _, [_], [_], .cons x1a (.nil), _, [_], [_], .cons x2a (.nil), _ => exact .cons x0a (.cons x0b (.cons x0c (.cons x2a (.cons x1a (.nil)))))
  · have e1 : gk_bi_Mirror___init___2_across a0 a1 a2 = [] := by
      unfold gk_bi_Mirror___init___2_across; split
      · exact absurd ⟨rfl, rfl, rfl⟩ hh
      · rfl
    have hb : ¬ (b0.length = 3 ∧ b1.length = 1 ∧ b2.length = 1) := by
      rw [← l0, ← l1, ← l2]
      exact hh
    have e2 : gk_bi_Mirror___init___2_across b0 b1 b2 = [] := by
      unfold gk_bi_Mirror___init___2_across; split
      · exact absurd ⟨rfl, rfl, rfl⟩ hb
      · rfl
    rw [e1, e2]
    exact .nil
theorem bi_Mirror___init___2_across : Lw.BndI "Mirror.__init__" s_Mirror___init__ ["self", "x", "y", "across", "down"] 3 ["across"] [("down", .bl false)] (fun {_} => gk_bi_Mirror___init___2_across) := fun _ _ _ _ _ _ us mv ws h1 h2 h3 => match us, h1, mv, h2, ws, h3 with | [_, _, _], _, [_], _, [_], _ => ⟨_, _, _, _, _, _, rfl, rfl, rfl⟩
def gk_bi_Mirror___init___2_down {α : Type} : List α → List α → List α → List α | [u0, u1, u2], [m0], [z0] => [u0, u1, u2, m0, z0] | _, _, _ => []
theorem rk_bi_Mirror___init___2_down {a0 a1 a2 : List V} {b0 b1 b2 : List Value} (h0 : Vals a0 b0) (h1 : Vals a1 b1) (h2 : Vals a2 b2) : Vals (gk_bi_Mirror___init___2_down a0 a1 a2) (gk_bi_Mirror___init___2_down b0 b1 b2) := by
  have l0 := Paired.length h0
  have l1 := Paired.length h1
  have l2 := Paired.length h2
  by_cases hh : a0.length = 3 ∧ a1.length = 1 ∧ a2.length = 1
  · obtain ⟨k0, k1, k2⟩ := hh
    match a0, b0, h0, k0, a1, b1, h1, k1, a2, b2, h2, k2 with
    | [_, _, _], [_, _, _], .cons x0a (.cons x0b (.cons x0c (.nil))), _, [_], [_], .cons x1a (.nil), _, [_], [_], .cons x2a (.nil), _ => exact .cons x0a (.cons x0b (.cons x0c (.cons x1a (.cons x2a (.nil)))))
  · have e1 : gk_bi_Mirror___init___2_down a0 a1 a2 = [] := by
      unfold gk_bi_Mirror___init___2_down; split
      · exact absurd ⟨rfl, rfl, rfl⟩ hh
      · rfl
    have hb : ¬ (b0.length = 3 ∧ b1.length = 1 ∧ b2.length = 1) := by
      rw [← l0, ← l1, ← l2]
      exact hh
    have e2 : gk_bi_Mirror___init___2_down b0 b1 b2 = [] := by
      unfold gk_bi_Mirror___init___2_down; split
      · exact absurd ⟨rfl, rfl, rfl⟩ hb
      · rfl
    rw [e1, e2]
    exact .nil
theorem bi_Mirror___init___2_down : Lw.BndI "Mirror.__init__" s_Mirror___init__ ["self", "x", "y", "across", "down"] 3 ["down"] [("across", .bl false)] (fun {_} => gk_bi_Mirror___init___2_down) := fun _ _ _ _ _ _ us mv ws h1 h2 h3 => match us, h1, mv, h2, ws, h3 with | [_, _, _], _, [_], _, [_], _ => ⟨_, _, _, _, _, _, rfl, rfl, rfl⟩
def gk_bi_Mirror___init___2_ {α : Type} : List α → List α → List α → List α | [u0, u1, u2], [m0, m1], [] => [u0, u1, u2, m0, m1] | _, _, _ => []
theorem rk_bi_Mirror___init___2_ {a0 a1 a2 : List V} {b0 b1 b2 : List Value} (h0 : Vals a0 b0) (h1 : Vals a1 b1) (h2 : Vals a2 b2) : Vals (gk_bi_Mirror___init___2_ a0 a1 a2) (gk_bi_Mirror___init___2_ b0 b1 b2) := by
  have l0 := Paired.length h0
  have l1 := Paired.length h1
  have l2 := Paired.length h2
  by_cases hh : a0.length = 3 ∧ a1.length = 2 ∧ a2.length = 0
  · obtain ⟨k0, k1, k2⟩ := hh
    match a0, b0, h0, k0, a1, b1, h1, k1, a2, b2, h2, k2 with
    | [_, _, _], [_, _, _], .cons x0a (.cons x0b (.cons x0c (.nil))), _, [_, _], [_, _], .cons x1a (.cons x1b (.nil)), _, [], [], .nil, _ => exact .cons x0a (.cons x0b (.cons x0c (.cons x1a (.cons x1b (.nil)))))
  · have e1 : gk_bi_Mirror___init___2_ a0 a1 a2 = [] := by
      unfold gk_bi_Mirror___init___2_; split
      · exact absurd ⟨rfl, rfl, rfl⟩ hh
      · rfl
    have hb : ¬ (b0.length = 3 ∧ b1.length = 2 ∧ b2.length = 0) := by
      rw [← l0, ← l1, ← l2]
      exact hh
    have e2 : gk_bi_Mirror___init___2_ b0 b1 b2 = [] := by
      unfold gk_bi_Mirror___init___2_; split
      · exact absurd ⟨rfl, rfl, rfl⟩ hb
      · rfl
    rw [e1, e2]
    exact .nil
theorem bi_Mirror___init___2_ : Lw.BndI "Mirror.__init__" s_Mirror___init__ ["self", "x", "y", "across", "down"] 3 [] [("across", .bl false), ("down", .bl false)] (fun {_} => gk_bi_Mirror___init___2_) := fun _ _ _ _ _ _ us mv ws h1 h2 h3 => match us, h1, mv, h2, ws, h3 with | [_, _, _], _, [_, _], _, [], _ => ⟨_, _, _, _, _, _, rfl, rfl, _, _, _, _, _, _, rfl, rfl, rfl⟩
def gk_bi_Mirror___init___2_down_across {α : Type} : List α → List α → List α → List α | [u0, u1, u2], [], [z0, z1] => [u0, u1, u2, z1, z0] | _, _, _ => []
theorem rk_bi_Mirror___init___2_down_across {a0 a1 a2 : List V} {b0 b1 b2 : List Value} (h0 : Vals a0 b0) (h1 : Vals a1 b1) (h2 : Vals a2 b2) : Vals (gk_bi_Mirror___init___2_down_across a0 a1 a2) (gk_bi_Mirror___init___2_down_across b0 b1 b2) := by
  have l0 := Paired.length h0
  have l1 := Paired.length h1
  have l2 := Paired.length h2
  by_cases hh : a0.length = 3 ∧ a1.length = 0 ∧ a2.length = 2
  · obtain ⟨k0, k1, k2⟩ := hh
    match a0, b0, h0, k0, a1, b1, h1, k1, a2, b2, h2, k2 with
    | [_, _, _], [_, _, _], .cons x0a (.cons x0b (.cons x0c (.nil))), _, [], [], .nil, _, [_, _], [_, _], .cons x2a (.cons x2b (.nil)), _ => exact .cons x0a (.cons x0b (.cons x0c (.cons x2b (.cons x2a (.nil)))))
  · have e1 : gk_bi_Mirror___init___2_down_across a0 a1 a2 = [] := by
      unfold gk_bi_Mirror___init___2_down_across; split
      · exact absurd ⟨rfl, rfl, rfl⟩ hh
      · rfl
    have hb : ¬ (b0.length = 3 ∧ b1.length = 0 ∧ b2.length = 2) := by
      rw [← l0, ← l1, ← l2]
      exact hh
    have e2 : gk_bi_Mirror___init___2_down_across b0 b1 b2 = [] := by
      unfold gk_bi_Mirror___init___2_down_across; split
      · exact absurd ⟨rfl, rfl, rfl⟩ hb
      · rfl
    rw [e1, e2]
    exact .nil
theorem bi_Mirror___init___2_down_across : Lw.BndI "Mirror.__init__" s_Mirror___init__ ["self", "x", "y", "across", "down"] 3 ["down", "across"] [] (fun {_} => gk_bi_Mirror___init___2_down_across) := fun _ _ _ _ _ _ us mv ws h1 h2 h3 => match us, h1, mv, h2, ws, h3 with | [_, _, _], _, [], _, [_, _], _ => rfl
def gk_bi_Mirror___init___0_y_x {α : Type} : List α → List α → List α → List α | [u0], [m0, m1], [z0, z1] => [u0, z1, z0, m0, m1] | _, _, _ => []
theorem rk_bi_Mirror___init___0_y_x {a0 a1 a2 : List V} {b0 b1 b2 : List Value} (h0 : Vals a0 b0) (h1 : Vals a1 b1) (h2 : Vals a2 b2) : Vals (gk_bi_Mirror___init___0_y_x a0 a1 a2) (gk_bi_Mirror___init___0_y_x b0 b1 b2) := by
  have l0 := Paired.length h0
  have l1 := Paired.length h1
  have l2 := Paired.length h2
  by_cases hh : a0.length = 1 ∧ a1.length = 2 ∧ a2.length = 2
  · obtain ⟨k0, k1, k2⟩ := hh
    match a0, b0, h0, k0, a1, b1, h1, k1, a2, b2, h2, k2 with
    | [_], [_], .cons x0a (.nil), _, [_, _], [_, _], .cons x1a (.cons x1b (.nil)), _, [_, _], [_, _], .cons x2a (.cons x2b (.nil)), _ => exact .cons x0a (.cons x2b (.cons x2a (.cons x1a (.cons x1b (.nil)))))
  · have e1 : gk_bi_Mirror___init___0_y_x a0 a1 a2 = [] := by
      unfold gk_bi_Mirror___init___0_y_x; split
      · exact absurd ⟨rfl, rfl, rfl⟩ hh
      · rfl
    have hb : ¬ (b0.length = 1 ∧ b1.length = 2 ∧ b2.length = 2) := by
      rw [← l0, ← l1, ← l2]
      exact hh
    have e2 : gk_bi_Mirror___init___0_y_x b0 b1 b2 = [] := by
      unfold gk_bi_Mirror___init___0_y_x; split
      · exact absurd ⟨rfl, rfl, rfl⟩ hb
      · rfl
    rw [e1, e2]
    exact .nil
theorem bi_Mirror___init___0_y_x : Lw.BndI "Mirror.__init__" s_Mirror___init__ ["self", "x", "y", "across", "down"] 1 ["y", "x"] [("across", .bl false), ("down", .bl false)] (fun {_} => gk_bi_Mirror___init___0_y_x) := fun _ _ _ _ _ _ us mv ws h1 h2 h3 => match us, h1, mv, h2, ws, h3 with | [_], _, [_, _], _, [_, _], _ => ⟨_, _, _, _, _, _, rfl, rfl, _, _, _, _, _, _, rfl, rfl, rfl⟩
structure Own_Mirror (K : PySem.W.Frag) (mg : Str → Option Value) (C : Addr) : Prop where
  ow : Lw.OwnC K mg "Mirror" C "lines"
  ini : Lw.InitC K C "Mirror.__init__" s_Mirror___init__ [("across", .bl false), ("down", .bl false)]
  nb : PySem.W.findIn K (.ref C) "__bool__" = some none
  nl : PySem.W.findIn K (.ref C) "__len__" = some none
  m___call__ : Lw.MethC K C "__call__" "Mirror.__call__" s_Mirror___call__
  m___eq__ : Lw.MethC K C "__eq__" "Mirror.__eq__" s_Mirror___eq__
  m___repr__ : Lw.MethC K C "__repr__" "Mirror.__repr__" s_Mirror___repr__
  m_image : Lw.MethC K C "image" "Mirror.image" s_Mirror_image
  m_moved : Lw.MethC K C "moved" "Mirror.moved" s_Mirror_moved
/-- what stands behind the top -/
structure Txt (K : PySem.W.Frag) (mg : Str → Option Value) : Prop where
  d_wall : Lw.DefAt K mg "_wall" s_wall
  d_is_integer : Lw.DefAt K mg "is_integer" s_is_integer
  d_is_between : Lw.DefAt K mg "is_between" s_is_between
  d_is_number : Lw.DefAt K mg "is_number" s_is_number
  d_is_rect : Lw.DefAt K mg "is_rect" s_is_rect
  d_check_rect : Lw.DefAt K mg "check_rect" s_check_rect
  d_line_start : Lw.DefAt K mg "line_start" s_line_start
  d_law_cell : Lw.DefAt K mg "_law_cell" s_law_cell
  d_law_pool : Lw.DefAt K mg "_law_pool" s_law_pool
  d_law_draw : Lw.DefAt K mg "_law_draw" s_law_draw
  d_law_box : Lw.DefAt K mg "_law_box" s_law_box
  d_law_spots : Lw.DefAt K mg "_law_spots" s_law_spots
  d_law_mirror : Lw.DefAt K mg "_law_mirror" s_law_mirror
  d_law_taken : Lw.DefAt K mg "_law_taken" s_law_taken
  d_law_words : Lw.DefAt K mg "_law_words" s_law_words
  d_law_image_right : Lw.DefAt K mg "_law_image_right" s_law_image_right
  d_law_empty_right : Lw.DefAt K mg "_law_empty_right" s_law_empty_right
  d_law_right : Lw.DefAt K mg "_law_right" s_law_right
  d_law_plain_right : Lw.DefAt K mg "_law_plain_right" s_law_plain_right
  d_law : Lw.DefAt K mg "law" s_law
  b_ValueError : mg "ValueError" = none
  b_abs : mg "abs" = none
  b_all : mg "all" = none
  b_bool : mg "bool" = none
  b_divmod : mg "divmod" = none
  b_int : mg "int" = none
  b_isinstance : mg "isinstance" = none
  b_len : mg "len" = none
  b_max : mg "max" = none
  b_min : mg "min" = none
  b_range : mg "range" = none
  b_repr : mg "repr" = none
  b_sorted : mg "sorted" = none
  b_str : mg "str" = none
  b_tuple : mg "tuple" = none
  o_Mirror : ∃ C, Own_Mirror K mg C
  g_MOST_SIZE : ∃ u, mg "MOST_SIZE" = some u ∧ RelV (.int 1000000000000) u

end K06
namespace K06
open PySem PySem.Spec PyProof.Rows L2 Evl Lw
section
variable {P : Program} {w : World} {K : PySem.W.Frag} {mg : Str → Option Value} {base : Heap}
theorem c_law_draw (T : Txt K mg) : Cl P w K mg base CX0 1 "_law_draw" s_law_draw ["_law_pool_here", "_law_many"] spDraw := by
  refine Cl.pool (cl_of (sp := spDraw1) (k := 0) T.d_law_draw sc_law_draw (fun vs H Q E h => ?_) (fun f cdv A outer s H vs Q E hr h => ?_)) spDraw_of
  · obtain ⟨p, m, a, b, c, rfl, _⟩ := h
    rfl
  · obtain ⟨p, m, a, b, c, rfl, hp, h0, h1, q⟩ := h
    have nd := sc_law_draw.nd
    refine ⟨_, (pss_cons (ps_asg (pe_op op_add (pe_ix ix_seq (pv 0) pe_int (fun _ _ => rfl)) pe_int) (pg_sub (pv 0) pe_int set_list))
      (pss_cons (ps_set (i := 2) nd rfl (Or.inl rfl) (pe_ix ix_seq (pv 0) pe_int (fun _ _ => rfl)))
      (pss_cons (ps_asg (pe_op op_mod (pe_op op_add (pe_op op_add (pe_op op_mul (pv 2) (pe_op op_add (pe_op op_mod (pv 2) pe_int) pe_int)) (pe_op op_mul pe_int (pe_ix ix_seq (pv 0) pe_int (fun _ _ => rfl)))) pe_int) pe_int) (pg_sub (pv 0) pe_int set_list))
      (pss_cons (ps_if (pt_cmpR op_gt (pe_ix ix_seq (pv 0) pe_int (fun _ _ => rfl)) pe_int (nomark _)) (pss_cons (ps_asg (pe_callB (call_divmodW) (by rfl) T.b_divmod bt_divmod (pa_cons (pe_ix ix_seq (pv 0) pe_int (fun _ _ => rfl)) (pa_cons (pv 1) pa_nil))) (pg_tup rfl (pgs_cons (pg_sub (pv 0) pe_int set_list) (pgs_cons (pg_name (i := 3) nd rfl (Or.inl rfl)) pgs_nil))))
      (pss_one (ps_ret (pv 3)))) pss_nil)
      (pss_one (ps_ret (pe_op op_mod (pe_op op_fdiv (pe_ix ix_seq (pv 0) pe_int (fun _ _ => rfl)) pe_int) (pv 1)))))))), ?_⟩
    repeat fail "st"
    refine ifD (fun hb => ?_) (fun hb => ?_)
    · repeat fail "st"
      refine ⟨cdivp h0 h1, fun t ht => ?_⟩
      have np : p ≠ t := ne_of_none upd_same ht
      repeat fail "st"
      exact q _ _ _ _ _ (But.mut (But.new (But.mut (But.mut But.refl)) ht)) upd_same (Int.emod_nonneg _ (by omega)) (Int.emod_lt_of_pos _ h0)
    · repeat fail "st"
      exact q _ _ _ _ _ (But.mut (But.mut But.refl)) upd_same (Int.emod_nonneg _ (by omega)) (Int.emod_lt_of_pos _ h0)
theorem c_law_pool (T : Txt K mg) : Cl P w K mg base CX0 1 "_law_pool" s_law_pool ["_law_cell_here"] spPool := by
  refine Cl.newpool (cl_of (sp := spPool1) (k := 0) T.d_law_pool sc_law_pool (fun vs H Q E h => ?_) (fun f cdv A outer s H vs Q E hr h => ?_)) spPool_of
  · obtain ⟨i, rfl, _⟩ := h
    rfl
  · obtain ⟨i, rfl, q⟩ := h
    have nd := sc_law_pool.nd
    refine ⟨_, (pss_cons (ps_set (i := 1) nd rfl (Or.inl rfl) (pe_ifExp (PW.pt (pw_or (pt_cmpR op_lt (pv 0) pe_int (nomark _)) (pw_or1 (pt_cmpR op_ge (pv 0) (pe_op op_pow pe_int pe_int) (nomark _))))) (pe_callB (call_abs) (by rfl) T.b_abs bt_abs (pa_cons (pv 0) pa_nil)) pe_int))
      (pss_one (ps_ret (pe_lst (pa_cons (pe_op op_mod (pv 0) pe_int) (pa_cons (pv 1) (pa_cons pe_int pa_nil))))))), ?_⟩
    repeat fail "st"
    refine ifD (fun hb => ?_) (fun hb => ?_)
    · repeat fail "st"
      refine iteT (B := True) ?_
      repeat fail "st"
      exact fun t ht => q t _ _ _ _ ht upd_same (Ex.new ht)
    · repeat fail "st"
      refine ifD (fun hb => ?_) (fun hb => ?_)
      · repeat fail "st"

        exact fun t ht => q t _ _ _ _ ht upd_same (Ex.new ht)
      · repeat fail "st"
        exact fun t ht => q t _ _ _ _ ht upd_same (Ex.new ht)
theorem c_law_cell (T : Txt K mg) : Cl P w K mg base CX0 1 "_law_cell" s_law_cell ["_law_script", "_law_k"] (Lw.spCell K) := by
  refine cl_of (k := 0) T.d_law_cell sc_law_cell (fun vs H Q E h => ?_) (fun f cdv A outer s H vs Q E hr h => ?_)
  · obtain ⟨a, ns, i, rfl, _⟩ := h
    rfl
  · obtain ⟨a, ns, i, rfl, hS, hl, h0, h1, q⟩ := h
    have nd := sc_law_cell.nd
    refine ⟨_, (pss_cons (ps_if (pt_cmpR op_lt (pv 1) (pe_callB (call_len) (by rfl) T.b_len bt_len (pa_cons (pv 0) pa_nil)) (nomark _)) (pss_one (ps_ret (pe_ix ix_seq (pv 0) (pv 1) (fun _ _ => rfl)))) pss_nil)
      (pss_cons (ps_set (i := 2) nd rfl (Or.inl rfl) (pe_op op_mod (pe_op op_mul pe_int (pe_op op_add (pe_op op_add (pe_op op_mul (pv 1) (pv 1)) (pe_op op_mul pe_int (pv 1))) pe_int)) pe_int))
      (pss_cons (ps_for PassesOwn.never rfl (pi_list (pe_slice sl_list (pv 0) po_none (po_some pe_int))) (pg_name (i := 3) nd rfl (Or.inl rfl)) (pss_one (ps_set (i := 2) nd rfl (Or.inl rfl) (pe_op op_mod (pe_op op_add (pe_op op_mul (pv 2) pe_int) (pv 3)) pe_int))))
      (pss_one (ps_ret (pv 2)))))), ?_⟩
    repeat fail "st"
    refine ifD (fun hb => ?_) (fun hb => ?_)
    · rw [List.length_map] at hb
      obtain ⟨j, rfl⟩ := Int.eq_ofNat_of_zero_le h0
      have hj : j < ns.length := by omega
      have ga : atI (ns.map V.int) (j : Int) = some (.int ns[j]) := atI_nat (by rw [List.getElem?_map, List.getElem?_eq_getElem hj]; rfl)
      repeat fail "st"
      exact q _ _ (Ex.refl H)
    · repeat fail "st"
      intro c nc
      refine ⟨_, rfl, ⟨_, SqL.of upd_same⟩, ?_⟩
      refine for_list (xs := cutV (ns.map V.int) none (some 3)) (fun _ σ H' => ∃ (z : Int) (y : Option V), σ = [some (.ref a), some (.int i), some (.int z), y] ∧ H' = upd H c (.lst (cutV (ns.map V.int) none (some 3)))) ⟨_, _, rfl, rfl⟩ ?_ ?_ ?_
      · rintro _ _ _ _ ⟨z, y, rfl, rfl⟩
        exact SqL.of upd_same
      · rintro _ x _ _ hx ⟨z, y, rfl, rfl⟩
        obtain ⟨n, rfl⟩ := cut_int hx
        repeat fail "st"
        rfl
      · rintro _ _ ⟨z, y, rfl, rfl⟩
        repeat fail "st"
        exact q _ _ (Ex.new nc)
end

end K06
namespace K06
open PySem PySem.Spec PyProof.Rows L2 Evl Lw
section
variable {P : Program} {w : World} {K : PySem.W.Frag} {mg : Str → Option Value} {base : Heap}
theorem c_is_integer (T : Txt K mg) : Cl P w K mg base CX0 1 "is_integer" s_is_integer ["value"] spInteger := by
  refine cl_of (k := 0) T.d_is_integer sc_is_integer (fun vs H Q E h => ?_) (fun f cdv A outer s H vs Q E hr h => ?_)
  · obtain ⟨v, n, rfl, _⟩ := h
    rfl
  · obtain ⟨v, n, rfl, k, q⟩ := h
    have nd := sc_is_integer.nd
    refine ⟨_, (pss_one (ps_ret (pe_and (pe_callB (call_isi) (by rfl) T.b_isinstance bt_isinstance (pa_cons (pv 0) (pa_cons (pe_bltn (v := .ty "int") (by rfl) T.b_int bt_int rfl) pa_nil))) (pe_one (pe_not (pe_callB (call_isi) (by rfl) T.b_isinstance bt_isinstance (pa_cons (pv 0) (pa_cons (pe_bltn (v := .ty "bool") (by rfl) T.b_bool bt_bool rfl) pa_nil)))))))), ?_⟩
    repeat fail "st"
    refine ifB (fun h => ?_) (fun h => ?_)
    · repeat fail "st"
      rw [int_yes k h] at q
      exact q
    · rw [int_no h] at q
      exact q
theorem c_is_between (T : Txt K mg) : Cl P w K mg base CX0 2 "is_between" s_is_between ["value", "low", "high"] spBetween := by
  refine cl_of (k := 1) T.d_is_between sc_is_between (fun vs H Q E h => ?_) (fun f cdv A outer s H vs Q E hr h => ?_)
  · obtain ⟨v, lo, hi, n, rfl, _⟩ := h
    rfl
  · obtain ⟨v, lo, hi, n, rfl, k, q⟩ := h
    have nd := sc_is_between.nd
    refine ⟨_, (pss_one (ps_ret (pe_and (Lw.pe_cl (c_is_integer T) b_is_integer hr (by decide) (by rfl) pass0 (pa_cons (pv 0) pa_nil)) (pe_one (pe_chain op_le op_le (pv 1) (pv 0) (pv 2)))))), ?_⟩
    repeat fail "st"
    refine ifB (fun h => ?_) (fun h => ?_)
    · obtain ⟨i, rfl⟩ := k.of_int h
      repeat fail "st"
      refine ifD (fun h1 => ?_) (fun h1 => ?_)
      · repeat fail "st"
        rw [inB, decide_eq_true h1] at q
        exact q
      · rw [inB, decide_eq_false h1] at q
        exact q
    · rw [inB_no k h] at q
      exact q
theorem c_is_number (T : Txt K mg) : Cl P w K mg base CX0 3 "is_number" s_is_number ["value"] spNumber := by
  refine cl_of (k := 2) T.d_is_number sc_is_number (fun vs H Q E h => ?_) (fun f cdv A outer s H vs Q E hr h => ?_)
  · obtain ⟨v, n, rfl, _⟩ := h
    rfl
  · obtain ⟨v, n, rfl, k, q⟩ := h
    have nd := sc_is_number.nd
    refine ⟨_, (pss_one (ps_ret (Lw.pe_cl (c_is_between T) b_is_between hr (by decide) (by rfl) pass0 (pa_cons (pv 0) (pa_cons (pe_un un_neg (C8.pe_gc (by rfl) T.g_MOST_SIZE)) (pa_cons (C8.pe_gc (by rfl) T.g_MOST_SIZE) pa_nil)))))), ?_⟩
    repeat fail "st"
    exact q
theorem c_is_rect (T : Txt K mg) : Cl P w K mg base CX0 4 "is_rect" s_is_rect ["value"] spRect := by
  refine cl_of (k := 3) T.d_is_rect sc_is_rect (fun vs H Q E h => ?_) (fun f cdv A outer s H vs Q E hr h => ?_)
  · obtain ⟨v, n, rfl, _⟩ := h
    rfl
  · obtain ⟨v, n, rfl, k, q⟩ := h
    have nd := sc_is_rect.nd
    refine ⟨_, (pss_cons (ps_if (PW.pt (pw_or (pt_not (pt_val (pe_callB (call_isi) (by rfl) T.b_isinstance bt_isinstance (pa_cons (pv 0) (pa_cons (pe_bltn (v := .ty "tuple") (by rfl) T.b_tuple bt_tuple rfl) pa_nil))))) (pw_or (pt_cmpR op_ne (pe_callB (call_len) (by rfl) T.b_len bt_len (pa_cons (pv 0) pa_nil)) pe_int (nomark _)) (pw_or (pt_not (pt_val (Lw.pe_cl (c_is_number T) b_is_number hr (by decide) (by rfl) pass0 (pa_cons (pe_ix ix_seq (pv 0) pe_int (fun _ _ => rfl)) pa_nil)))) (pw_or1 (pt_not (pt_val (Lw.pe_cl (c_is_number T) b_is_number hr (by decide) (by rfl) pass0 (pa_cons (pe_ix ix_seq (pv 0) pe_int (fun _ _ => rfl)) pa_nil))))))))) (pss_one (ps_ret pe_bl)) pss_nil)
      (pss_one (ps_ret (pe_and (Lw.pe_cl (c_is_between T) b_is_between hr (by decide) (by rfl) pass0 (pa_cons (pe_ix ix_seq (pv 0) pe_int (fun _ _ => rfl)) (pa_cons pe_int (pa_cons (C8.pe_gc (by rfl) T.g_MOST_SIZE) pa_nil)))) (pe_one (Lw.pe_cl (c_is_between T) b_is_between hr (by decide) (by rfl) pass0 (pa_cons (pe_ix ix_seq (pv 0) pe_int (fun _ _ => rfl)) (pa_cons pe_int (pa_cons (C8.pe_gc (by rfl) T.g_MOST_SIZE) pa_nil))))))))), ?_⟩
    cases k with
    | other k h =>
      repeat fail "st"
      refine ifB (fun h => ?_) (fun h1 => ?_)
      · exact q
      · rw [isK_ne h (by decide)] at h1
        cases h1
    | tup h ks =>
      repeat fail "st"
      refine ifN (fun hl => ?_) (fun hl => ?_)
      · rw [rectL_len (fun z => hl (lenN.mpr z))] at q
        exact q
      · obtain ⟨a, b, c, d, rfl⟩ := four (lenN.mp hl)
        obtain ⟨na, ka⟩ := ks a (by simp)
        obtain ⟨nb, kb⟩ := ks b (by simp)
        obtain ⟨nc, kc⟩ := ks c (by simp)
        obtain ⟨ne, ke⟩ := ks d (by simp)
        repeat fail "st"
        refine ifNt (fun ha => ?_) (fun ha => ?_)
        · rw [show rectL [a, b, c, d] = false by simp [rectL, ha]] at q
          exact q
        repeat fail "st"
        refine ifNt (fun hb => ?_) (fun hb => ?_)
        · rw [show rectL [a, b, c, d] = false by simp [rectL, hb]] at q
          exact q
        repeat fail "st"
        refine ifB (fun hc => ?_) (fun hc => ?_)
        · repeat fail "st"
          rw [show rectL [a, b, c, d] = Lw.inB 0 1000000000000 d by simp [rectL, ha, hb, hc]] at q
          exact q
        · rw [show rectL [a, b, c, d] = false by simp [rectL, hc]] at q
          exact q
end

end K06
namespace K06
open PySem PySem.Spec PyProof.Rows L2 Evl Lw
section
variable {P : Program} {w : World} {K : PySem.W.Frag} {mg : Str → Option Value} {base : Heap}
def spCkRect : Sp := fun vs H Q _ => ∃ q b, BoxAt H q b ∧ vs = [.ref q] ∧ GoodBox b ∧ Q .non H
theorem c_check_rect (T : Txt K mg) : Cl P w K mg base CX0 5 "check_rect" s_check_rect ["value"] spCkRect := by
  refine cl_of (k := 4) T.d_check_rect sc_check_rect (fun vs H Q E h => ?_) (fun f cdv A outer s H vs Q E hr h => ?_)
  · obtain ⟨r, b, _, rfl, _⟩ := h
    rfl
  · obtain ⟨r, b, hb, rfl, hg, q⟩ := h
    have nd := sc_check_rect.nd
    refine ⟨_, (pss_one (ps_if (pt_not (pt_val (Lw.pe_cl (c_is_rect T) b_is_rect hr (by decide) (by rfl) pass0 (pa_cons (pv 0) pa_nil)))) (pss_one Lw.ps_dead) pss_nil)), ?_⟩
    repeat fail "st"
    refine ⟨_, _, rfl, .tup hb (fun x hx => by (repeat (rcases List.mem_cons.mp hx with rfl | hx; exact ⟨_, .int _⟩)); cases hx), ?_⟩
    rw [rectL_good hg]
    repeat fail "st"
    exact q
end

end K06
namespace K06
open PySem PySem.Spec PyProof.Rows L2 Evl Lw
section
variable {P : Program} {w : World} {K : PySem.W.Frag} {mg : Str → Option Value} {base : Heap}
def spBox : Sp := fun vs H Q _ => ∃ p, vs = [.ref p] ∧ Pool H p ∧ ∀ t b H', Ex H H' → BoxAt H' t b → SmallBox b → Q (.ref t) H'
theorem c_law_box (T : Txt K mg) : Cl P w K mg base CX0 2 "_law_box" s_law_box ["_law_pool_here"] spBox := by
  refine cl_of (k := 1) T.d_law_box sc_law_box (fun vs H Q E h => ?_) (fun f cdv A outer s H vs Q E hr h => ?_)
  · obtain ⟨p, rfl, _⟩ := h
    rfl
  · obtain ⟨p, rfl, hp, q⟩ := h
    have nd := sc_law_box.nd
    refine ⟨_, (pss_one (ps_ret (pe_tup (pa_cons (pe_op op_sub (Lw.pe_cl (c_law_draw T) b_law_draw hr (by decide) (by rfl) pass0 (pa_cons (pv 0) (pa_cons pe_int pa_nil))) pe_int) (pa_cons (pe_op op_sub (Lw.pe_cl (c_law_draw T) b_law_draw hr (by decide) (by rfl) pass0 (pa_cons (pv 0) (pa_cons pe_int pa_nil))) pe_int) (pa_cons (Lw.pe_cl (c_law_draw T) b_law_draw hr (by decide) (by rfl) pass0 (pa_cons (pv 0) (pa_cons pe_int pa_nil))) (pa_cons (Lw.pe_cl (c_law_draw T) b_law_draw hr (by decide) (by rfl) pass0 (pa_cons (pv 0) (pa_cons pe_int pa_nil))) pa_nil))))))), ?_⟩
    repeat fail "st"
    intro d1 H1 e1 d10 d11
    repeat fail "st"
    intro d2 H2 e2 d20 d21
    repeat fail "st"
    intro d3 H3 e3 d30 d31
    repeat fail "st"
    intro d4 H4 e4 d40 d41
    repeat fail "st"
    intro t n_t
    generalize hh : upd _ t _ = H_t
    have e_t := newEx hh n_t
    have h_t := newAt hh
    clear hh
    exact q t (d1 - 4, d2 - 4, d3, d4) _ (e1.trans (e2.trans (e3.trans (e4.trans e_t)))) h_t ⟨⟨by show _ ≤ d1 - 4; omega, by show d1 - 4 ≤ _; omega⟩, ⟨by show _ ≤ d2 - 4; omega, by show d2 - 4 ≤ _; omega⟩, ⟨d30, by show d3 ≤ _; omega⟩, d40, by show d4 ≤ _; omega⟩
end

end K06
namespace K06
open PySem PySem.Spec PyProof.Rows L2 Evl Lw
section
variable {P : Program} {w : World} {K : PySem.W.Frag} {mg : Str → Option Value} {base : Heap}
def spSpots (K : PySem.W.Frag) : Sp := fun vs H Q _ => ∃ l qs bs, SqL K H l (qs.map V.ref) ∧ vs = [.ref l] ∧ Boxes H qs bs ∧ bs.length ≤ 100 ∧ (∀ b ∈ bs, Small b) ∧
  ∀ l' ks ps H', Ex H H' → H' l' = some (.lst (ks.map V.ref)) → Rows H' ks ps → ps.Pairwise Lex → (∀ p, p ∈ ps ↔ ∃ b ∈ bs, InBox b p) → ps.length ≤ 5000 → Q (.ref l') H'
theorem c_law_spots (T : Txt K mg) : Cl P w K mg base CX0 1 "_law_spots" s_law_spots ["_law_some"] (spSpots K) := by
  refine cl_of (k := 0) T.d_law_spots sc_law_spots (fun vs H Q E h => ?_) (fun f cdv A outer s H vs Q E hr h => ?_)
  · obtain ⟨l, qs, bs, _, rfl, _⟩ := h
    rfl
  · obtain ⟨l, qs, bs, hl, rfl, hb, hn, hs, q⟩ := h
    have nd := sc_law_spots.nd
    refine ⟨_, (pss_cons (ps_set (i := 1) nd rfl (Or.inl rfl) pe_dnewT)
      (pss_cons (ps_for PassesOwn.never rfl (pi_list (pv 0)) (pg_tup rfl (pgs_cons (pg_name (i := 2) nd rfl (Or.inl rfl)) (pgs_cons (pg_name (i := 3) nd rfl (Or.inl rfl)) (pgs_cons (pg_name (i := 4) nd rfl (Or.inl rfl)) (pgs_cons (pg_name (i := 5) nd rfl (Or.inl rfl)) pgs_nil))))) (pss_one (ps_for PassesOwn.never rfl (pi_range1 (by rfl) T.b_range (pa_cons (pe_op op_mul (pv 4) (pv 5)) pa_nil)) (pg_name (i := 6) nd rfl (Or.inl rfl)) (pss_one (ps_asg pe_bl (pg_sub (pv 1) (pe_tup (pa_cons (pe_op op_add (pv 2) (pe_op op_mod (pv 6) (pv 4))) (pa_cons (pe_op op_add (pv 3) (pe_op op_fdiv (pv 6) (pv 4))) pa_nil))) (set_dict (Lw.u1 hr.units))))))))
      (pss_one (ps_ret (pe_callB (Lw.cr_sortedDP rfl) (by rfl) T.b_sorted bt_sorted (pa_cons (pv 1) pa_nil)))))), ?_⟩
    repeat fail "st"
    intro d n_d
    generalize hh : upd _ d _ = H_d
    have e_d := newEx hh n_d
    have h_d := newAt hh
    clear hh
    repeat fail "st"
    refine for_list (xs := qs.map V.ref) (fun i σ H' => ∃ (y1 y2 y3 y4 y5 : Option V) (kvs : List (List Key × V)) (ps : List (Int × Int)), σ = [some (.ref l), some (.ref d), y1, y2, y3, y4, y5] ∧ Ex H H' ∧ H' d = some (.dT kvs) ∧ kvs.map (·.1) = ps.map keyP ∧ ps.Nodup ∧ (∀ p, p ∈ ps ↔ ∃ b ∈ bs.take i, InBox b p) ∧ ps.length ≤ 50 * i) ?_ ?_ ?_ ?_
    · exact ⟨_, _, _, _, _, [], [], rfl, e_d, h_d, rfl, .nil, fun p => by simp, Nat.le_refl _⟩
    · rintro i _ H' _ ⟨y1, y2, y3, y4, y5, kvs, ps, rfl, e, _⟩
      exact ex_l e hl
    · rintro i x _ H1 hx ⟨y1, y2, y3, y4, y5, kvs, ps, rfl, e1, hd1, hk1, nd1, m1, le1⟩
      obtain ⟨r, ⟨bl, bt, bw, bh⟩, rfl, hbi, rb⟩ := boxes_at (hb.up e1) hx
      obtain ⟨w0, w7, h0, h7⟩ := hs _ (List.mem_of_getElem? hbi)
      replace rb : H1 r = some (.tup [.int bl, .int bt, .int bw, .int bh]) := rb
      simp only at w0 w7 h0 h7
      have ib : i < 100 := by
        have := (List.getElem?_eq_some_iff.mp hbi).1
        omega
      repeat fail "st"
      have nn : (bw * bh).toNat ≤ 49 := by
        have a : bw * bh ≤ 7 * bh := Int.mul_le_mul_of_nonneg_right w7 h0
        omega
      have le2 : bw * bh ≤ 49 := by
        have a : bw * bh ≤ 7 * bh := Int.mul_le_mul_of_nonneg_right w7 h0
        omega
      have ge2 : 0 ≤ bw * bh := Int.mul_nonneg w0 h0
      repeat fail "st"
      refine for_range (fun j σ H' => ∃ (y5 : Option V) (kvs : List (List Key × V)) (ps : List (Int × Int)), σ = [some (.ref l), some (.ref d), some (.int bl), some (.int bt), some (.int bw), some (.int bh), y5] ∧ Ex H H' ∧ H' d = some (.dT kvs) ∧ kvs.map (·.1) = ps.map keyP ∧ ps.Nodup ∧ (∀ p, p ∈ ps ↔ (∃ b ∈ bs.take i, InBox b p) ∨ ∃ s : Nat, s < j ∧ p = (bl + (s : Int) % bw, bt + (s : Int) / bw)) ∧ ps.length ≤ 50 * i + j) ?_ ?_ ?_
      · exact ⟨_, kvs, ps, rfl, e1, hd1, hk1, nd1, fun p => by rw [m1]; simp, le1⟩
      · rintro j _ H2 hj ⟨y5, kvs2, ps2, rfl, e2, hd2, hk2, nd2, m2, lq2⟩
        have wp : 0 < bw := by
          rcases Int.lt_or_eq_of_le w0 with c | c
          · exact c
          · rw [← c, Int.zero_mul] at hj
            exact absurd hj (by simp)
        have wn : bw ≠ 0 := Int.ne_of_gt wp
        repeat fail "st"
        intro t n_t
        generalize hh : upd _ t _ = H_t
        have e_t := newEx hh n_t
        have h_t := newAt hh
        clear hh
        have hd3 : H_t d = some (.dT kvs2) := e_t _ _ hd2
        have lk : kvs2.length = ps2.length := by
          have := congrArg List.length hk2
          rwa [List.length_map, List.length_map] at this
        obtain ⟨ps3, hk3, nd3, m3, l3⟩ := put_pt (p := (bl + (0 + (j : Int)) % bw, bt + (0 + (j : Int)) / bw)) (v := .bl true) hk2 nd2
        refine ⟨d, _, rfl, .inr ⟨kvs2, keyP (bl + (0 + (j : Int)) % bw, bt + (0 + (j : Int)) / bw), t, hd3, rfl, h_t, Nat.lt_of_lt_of_le (show _ < 6000 by omega) (by decide), rfl⟩, ?_⟩
        refine ⟨_, _, ps3, rfl, Ex.mut (e2.trans e_t) n_d, upd_same, hk3, nd3, fun p => ?_, by omega⟩
        rw [m3, m2, Int.zero_add]
        constructor
        · rintro ((h | ⟨s, hs, h⟩) | h)
          · exact .inl h
          · exact .inr ⟨s, by omega, h⟩
          · exact .inr ⟨j, by omega, h⟩
        · rintro (h | ⟨s, hs, h⟩)
          · exact .inl (.inl h)
          · by_cases c : s < j
            · exact .inl (.inr ⟨s, c, h⟩)
            · obtain rfl : s = j := by omega
              exact .inr h
      · rintro _ H2 ⟨y5, kvs2, ps2, rfl, e2, hd2, hk2, nd2, m2, lq2⟩
        refine ⟨_, _, _, _, _, kvs2, ps2, rfl, e2, hd2, hk2, nd2, fun p => ?_, by omega⟩
        rw [m2, List.take_add_one, hbi]
        constructor
        · rintro (⟨b, hb, h⟩ | h)
          · exact ⟨b, List.mem_append_left _ hb, h⟩
          · exact ⟨_, List.mem_append_right _ (by simp), (box_spots w0 h0).mpr h⟩
        · rintro ⟨b, hb, h⟩
          rcases List.mem_append.mp hb with hb | hb
          · exact .inl ⟨b, hb, h⟩
          · obtain rfl : b = (bl, bt, bw, bh) := by simpa using hb
            exact .inr ((box_spots w0 h0).mp h)
    · rintro _ H1 ⟨y1, y2, y3, y4, y5, kvs, ps, rfl, e1, hd1, hk1, nd1, m1, le1⟩
      rw [List.length_map, Paired.length hb, List.take_length] at m1
      rw [List.length_map, Paired.length hb] at le1
      repeat fail "st"
      refine ⟨d, kvs, ps, .inl hd1, rfl, hk1, fun H2 l' ks rs e2 hl2 r2 p2 s2 => ?_⟩
      exact q l' ks rs H2 (e1.trans e2) hl2 r2 (lex_of s2 (p2.nodup_iff.mpr nd1)) (fun p => (p2.mem_iff).trans (m1 p)) (by rw [p2.length_eq]; omega)
end

end K06
namespace K06
open PySem PySem.Spec PyProof.Rows L2 Evl Lw
section
variable {P : Program} {w : World} {K : PySem.W.Frag} {mg : Str → Option Value} {base : Heap} {C : Addr}
theorem c_Mirror___init__ (T : Txt K mg) (cM : Own_Mirror K mg C) : Lw.DefI P w K mg base CX0 2 C "Mirror.__init__" s_Mirror___init__ [("across", .bl false), ("down", .bl false)] ["self", "x", "y", "across", "down"] (spMkM C) := by
  refine defI_of (k := 1) cM.ini sc_Mirror___init__ (fun vs H Q E h => ?_) (fun f cdv A outer s H vs Q E hr h => ?_)
  · obtain ⟨a, dx, x, y, o, d, rfl, _⟩ := h
    rfl
  · obtain ⟨a, dx, x, y, o, d, rfl, ha, q⟩ := h
    have nd := sc_Mirror___init__.nd
    refine ⟨_, (pss_cons (ps_if (pt_not (pt_val (Lw.pe_cl (c_is_integer T) b_is_integer hr (by decide) (by rfl) pass0 (pa_cons (pv 1) pa_nil)))) (pss_one Lw.ps_dead) pss_nil)
      (pss_cons (ps_if (pt_not (pt_val (Lw.pe_cl (c_is_integer T) b_is_integer hr (by decide) (by rfl) pass0 (pa_cons (pv 2) pa_nil)))) (pss_one Lw.ps_dead) pss_nil)
      (pss_one (ps_fld (pv 0) (pe_tup (pa_cons (pe_tup (pa_cons (pv 1) (pa_cons (pv 3) pa_nil))) (pa_cons (pe_tup (pa_cons (pv 2) (pa_cons (pv 4) pa_nil))) pa_nil))) rfl)))), ?_⟩
    repeat fail "st"
    intro r1 n_r1
    generalize hh : upd _ r1 _ = H_r1
    have e_r1 := newEx hh n_r1
    have h_r1 := newAt hh
    clear hh
    repeat fail "st"
    intro r2 n_r2
    generalize hh : upd _ r2 _ = H_r2
    have e_r2 := newEx hh n_r2
    have h_r2 := newAt hh
    clear hh
    repeat fail "st"
    intro t n_t
    generalize hh : upd _ t _ = H_t
    have e_t := newEx hh n_t
    have h_t := newAt hh
    clear hh
    repeat fail "st"
    have h1 := e_t _ _ (e_r2 _ _ h_r1)
    have h2 := e_t _ _ h_r2
    have ha' := e_t _ _ (e_r2 _ _ (e_r1 _ _ ha))
    refine ⟨_, _, _, _, rfl, ha', cM.ow.cls, cM.ow.no, by decide, ?_⟩
    have up : ∀ b u, b ≠ a → H b = some u → upd H_t a (.ins C dx [("lines", .ref t)]) b = some u := fun b u ne hb => by
      rw [upd_ne ne]
      exact e_t _ _ (e_r2 _ _ (e_r1 _ _ hb))
    have na : ∀ {z o}, H_t z = some o → (∀ xs, o = HO.tup xs → z ≠ a) := fun {z o} hz xs e n => by
      rw [n, ha'] at hz
      cases hz
      cases e
    exact q _ up ⟨dx, t, r1, r2, upd_same, by rw [upd_ne (na h_t _ rfl)]; exact h_t, by rw [upd_ne (na h1 _ rfl)]; exact h1, by rw [upd_ne (na h2 _ rfl)]; exact h2⟩
theorem c_Mirror___call__ (T : Txt K mg) (cM : Own_Mirror K mg C) : Lw.DefM P w K mg base CX0 1 C "__call__" "Mirror.__call__" s_Mirror___call__ ["self", "u", "v"] (spCallM C) := by
  refine defM_of (k := 0) cM.m___call__ sc_Mirror___call__ (fun vs H Q E h => ?_) (fun f cdv A outer s H vs Q E hr h => ?_)
  · obtain ⟨a, l, r, u, v, _, rfl, _⟩ := h
    rfl
  · obtain ⟨a, ⟨x, o⟩, ⟨y, d⟩, u, v, ⟨dx, t, r1, r2, ha, ht, h1, h2⟩, rfl, q⟩ := h
    have nd := sc_Mirror___call__.nd
    replace h1 : H r1 = some (.tup [.int x, .bl o]) := h1
    replace h2 : H r2 = some (.tup [.int y, .bl d]) := h2
    refine ⟨_, (pss_cons (ps_asg (pe_fld (pv 0) rfl) (pg_tup rfl (pgs_cons (pg_tup rfl (pgs_cons (pg_name (i := 3) nd rfl (Or.inl rfl)) (pgs_cons (pg_name (i := 4) nd rfl (Or.inl rfl)) pgs_nil))) (pgs_cons (pg_tup rfl (pgs_cons (pg_name (i := 5) nd rfl (Or.inl rfl)) (pgs_cons (pg_name (i := 6) nd rfl (Or.inl rfl)) pgs_nil))) pgs_nil))))
      (pss_one (ps_ret (pe_tup (pa_cons (pe_ifExp (pt_val (pv 4)) (pe_op op_sub (pv 3) (pv 1)) (pe_op op_add (pv 3) (pv 1))) (pa_cons (pe_ifExp (pt_val (pv 6)) (pe_op op_sub (pv 5) (pv 2)) (pe_op op_add (pv 5) (pv 2))) pa_nil)))))), ?_⟩
    repeat fail "st"
    refine ⟨_, _, _, _, _, rfl, ha, cM.ow.cls, cM.ow.no, rfl, ?_⟩
    repeat fail "st"
    refine ifB (fun ho => ?_) (fun ho => ?_) <;> subst ho <;> repeat fail "st"
    all_goals refine ifB (fun hd => ?_) (fun hd => ?_) <;> subst hd <;> repeat fail "st"
    all_goals
      intro p np
      exact q p _ (Ex.new np) upd_same
theorem eq_lines {H : Hp} {t t' r1 r2 r1' r2' : Addr} {l r l' r' : Int × Bool} {Q : VK} (ht : H t = some (.tup [.ref r1, .ref r2])) (h1 : H r1 = some (.tup [.int l.1, .bl l.2])) (h2 : H r2 = some (.tup [.int r.1, .bl r.2]))
    (ht' : H t' = some (.tup [.ref r1', .ref r2'])) (h1' : H r1' = some (.tup [.int l'.1, .bl l'.2])) (h2' : H r2' = some (.tup [.int r'.1, .bl r'.2])) (q : Q (.bl (decide (l = l' ∧ r = r'))) H) : rEqD K (.ref t) (.ref t') H Q := by
  have dl : ∀ {a b c : Addr} {m n : Int × Bool}, H a = some (.tup [.ref b, .ref c]) → H b = some (.tup [.int m.1, .bl m.2]) → H c = some (.tup [.int n.1, .bl n.2]) → Dp K H (.ref a) (.tuple [.tuple [.int m.1, .bool m.2], .tuple [.int n.1, .bool n.2]]) :=
    fun ha hb hc => .tup (SqT.of ha) (.cons (.tup (SqT.of hb) (.cons (.int _) (.cons (.bl _) .nil))) (.cons (.tup (SqT.of hc) (.cons (.int _) (.cons (.bl _) .nil))) .nil))
  have sh : ∀ m n : Int × Bool, SeqAt.shaped (.tuple [.tuple [.int m.1, .bool m.2], .tuple [.int n.1, .bool n.2]]) = true := fun m n => by simp [SeqAt.shaped, PyData.canLay0, PyData.canLayAll0, PyData.depth, PyData.depthAll]
  refine ⟨_, _, dl ht h1 h2, dl ht' h1' h2', sh _ _, sh _ _, ?_⟩
  have e : PyData.eqv (.tuple [.tuple [.int l.1, .bool l.2], .tuple [.int r.1, .bool r.2]]) (.tuple [.tuple [.int l'.1, .bool l'.2], .tuple [.int r'.1, .bool r'.2]]) = decide (l = l' ∧ r = r') := by
    obtain ⟨a, b⟩ := l
    obtain ⟨c, d⟩ := r
    obtain ⟨a', b'⟩ := l'
    obtain ⟨c', d'⟩ := r'
    rw [Bool.eq_iff_iff]
    simp [PyData.eqv, PyData.eqvAll, Prod.ext_iff, and_assoc]
  rw [e]
  exact q
theorem c_Mirror___eq__ (T : Txt K mg) (cM : Own_Mirror K mg C) : Lw.DefM P w K mg base CX0 1 C "__eq__" "Mirror.__eq__" s_Mirror___eq__ ["self", "other"] (spEqM C) := by
  refine defM_of (k := 0) cM.m___eq__ sc_Mirror___eq__ (fun vs H Q E h => ?_) (fun f cdv A outer s H vs Q E hr h => ?_)
  · obtain ⟨a, l, r, y, _, rfl, _⟩ := h
    rfl
  · obtain ⟨a, l, r, yy, ⟨dx, t, r1, r2, ha, ht, h1, h2⟩, rfl, q⟩ := h
    have nd := sc_Mirror___eq__.nd
    refine ⟨_, (pss_one (ps_ret (pe_and (pe_callB (call_isi) (by rfl) T.b_isinstance bt_isinstance (pa_cons (pv 1) (pa_cons (pe_glob (v := .ref _) (by rfl) cM.ow.nm rfl) pa_nil))) (pe_one (pe_cmpR (op_eqD hr.units) (pe_fld (pv 0) rfl) (pe_fld (pv 1) rfl) (nomark _)))))), ?_⟩
    repeat fail "st"
    rcases q with ⟨b, l', r', rfl, ⟨dx', t', r1', r2', ha', ht', h1', h2'⟩, q⟩ | ⟨b, ys, rfl, hb, q⟩
    · refine ⟨_, _, _, _, _, rfl, .own C, .base (.ins ha' cM.ow.cls cM.ow.kc cM.ow.kg cM.ow.kt cM.ow.ko), cM.ow.ii, ?_⟩
      repeat fail "st"
      refine ⟨_, _, _, _, _, rfl, ha, cM.ow.cls, cM.ow.no, rfl, ?_⟩
      repeat fail "st"
      refine ⟨_, _, _, _, _, rfl, ha', cM.ow.cls, cM.ow.no, rfl, ?_⟩
      repeat fail "st"
      exact eq_lines ht h1 h2 ht' h1' h2' q
    · refine ⟨_, _, _, _, _, rfl, .own C, .base (.tup hb), cM.ow.it, ?_⟩
      repeat fail "st"
      exact q
end

end K06
namespace K06
open PySem PySem.Spec PyProof.Rows L2 Evl Lw
section
variable {P : Program} {w : World} {K : PySem.W.Frag} {mg : Str → Option Value} {base : Heap} {C : Addr}
/-- the first place to which a stretch is taken -/
def lst (l : Int × Bool) (s w : Int) : Int := if l.2 = true then l.1 - s - w + 1 else l.1 + s
def spStart : Sp := fun vs H Q _ => ∃ (l : Int × Bool) (s w : Int), vs = [.int s, .int w, .int l.1, .bl l.2] ∧ Q (.int (lst l s w)) H
theorem c_line_start (T : Txt K mg) : Cl P w K mg base CX0 1 "line_start" s_line_start ["start", "extent", "offset", "turned"] spStart := by
  refine cl_of (k := 0) T.d_line_start sc_line_start (fun vs H Q E h => ?_) (fun f cdv A outer s H vs Q E hr h => ?_)
  · obtain ⟨l, s, w', rfl, _⟩ := h
    rfl
  · obtain ⟨⟨l, o⟩, s', w', rfl, q⟩ := h
    have nd := sc_line_start.nd
    refine ⟨_, (pss_one (ps_ret (pe_ifExp (pt_val (pv 3)) (pe_op op_add (pe_op op_sub (pe_op op_sub (pv 2) (pv 0)) (pv 1)) pe_int) (pe_op op_add (pv 2) (pv 0))))), ?_⟩
    repeat fail "st"
    refine ifB (fun ho => ?_) (fun ho => ?_)
    · subst ho
      repeat fail "st"
      exact q
    · subst ho
      repeat fail "st"
      exact q
def spMoved (C : Addr) : Sp := fun vs H Q _ => ∃ a l r p b, MI C H a l r ∧ BoxAt H p b ∧ vs = [.ref a, .ref p] ∧ ∀ q H', Ex H H' → BoxAt H' q (lst l b.1 b.2.2.1, lst r b.2.1 b.2.2.2, b.2.2.1, b.2.2.2) → Q (.ref q) H'
theorem c_Mirror_moved (T : Txt K mg) (cM : Own_Mirror K mg C) : Lw.DefM P w K mg base CX0 2 C "moved" "Mirror.moved" s_Mirror_moved ["self", "rect"] (spMoved C) := by
  refine defM_of (k := 1) cM.m_moved sc_Mirror_moved (fun vs H Q E h => ?_) (fun f cdv A outer s H vs Q E hr h => ?_)
  · obtain ⟨a, l, r, p, b, _, _, rfl, _⟩ := h
    rfl
  · obtain ⟨a, ⟨x, o⟩, ⟨y, d⟩, p, ⟨b1, b2, b3, b4⟩, ⟨dx, t, r1, r2, ha, ht, h1, h2⟩, hp, rfl, q⟩ := h
    have nd := sc_Mirror_moved.nd
    replace h1 : H r1 = some (.tup [.int x, .bl o]) := h1
    replace h2 : H r2 = some (.tup [.int y, .bl d]) := h2
    replace hp : H p = some (.tup [.int b1, .int b2, .int b3, .int b4]) := hp
    refine ⟨_, (pss_cons (ps_asg (pe_fld (pv 0) rfl) (pg_tup rfl (pgs_cons (pg_tup rfl (pgs_cons (pg_name (i := 2) nd rfl (Or.inl rfl)) (pgs_cons (pg_name (i := 3) nd rfl (Or.inl rfl)) pgs_nil))) (pgs_cons (pg_tup rfl (pgs_cons (pg_name (i := 4) nd rfl (Or.inl rfl)) (pgs_cons (pg_name (i := 5) nd rfl (Or.inl rfl)) pgs_nil))) pgs_nil))))
      (pss_one (ps_ret (pe_tup (pa_cons (Lw.pe_cl (c_line_start T) b_line_start hr (by decide) (by rfl) pass0 (pa_cons (pe_ix ix_seq (pv 1) pe_int (fun _ _ => rfl)) (pa_cons (pe_ix ix_seq (pv 1) pe_int (fun _ _ => rfl)) (pa_cons (pv 2) (pa_cons (pv 3) pa_nil))))) (pa_cons (Lw.pe_cl (c_line_start T) b_line_start hr (by decide) (by rfl) pass0 (pa_cons (pe_ix ix_seq (pv 1) pe_int (fun _ _ => rfl)) (pa_cons (pe_ix ix_seq (pv 1) pe_int (fun _ _ => rfl)) (pa_cons (pv 4) (pa_cons (pv 5) pa_nil))))) (pa_cons (pe_ix ix_seq (pv 1) pe_int (fun _ _ => rfl)) (pa_cons (pe_ix ix_seq (pv 1) pe_int (fun _ _ => rfl)) pa_nil)))))))), ?_⟩
    repeat fail "st"
    refine ⟨_, _, _, _, _, rfl, ha, cM.ow.cls, cM.ow.no, rfl, ?_⟩
    repeat fail "st"
    refine ⟨(x, o), _, _, rfl, ?_⟩
    repeat fail "st"
    refine ⟨(y, d), _, _, rfl, ?_⟩
    repeat fail "st"
    intro t n_t
    generalize hh : upd _ t _ = H_t
    have e_t := newEx hh n_t
    have h_t := newAt hh
    clear hh
    exact q t _ e_t h_t
def spImage (C : Addr) : Sp := fun vs H Q _ => ∃ a l r p b, MI C H a l r ∧ BoxAt H p b ∧ vs = [.ref a, .ref p] ∧ GoodBox b ∧ ∀ q H', Ex H H' → BoxAt H' q (lst l b.1 b.2.2.1, lst r b.2.1 b.2.2.2, b.2.2.1, b.2.2.2) → Q (.ref q) H'
theorem c_Mirror_image (T : Txt K mg) (cM : Own_Mirror K mg C) : Lw.DefM P w K mg base CX0 6 C "image" "Mirror.image" s_Mirror_image ["self", "rect"] (spImage C) := by
  refine defM_of (k := 5) cM.m_image sc_Mirror_image (fun vs H Q E h => ?_) (fun f cdv A outer s H vs Q E hr h => ?_)
  · obtain ⟨a, l, r, p, b, _, _, rfl, _⟩ := h
    rfl
  · obtain ⟨a, l, r, p, b, mi, hp, rfl, gb, q⟩ := h
    have nd := sc_Mirror_image.nd
    refine ⟨_, (pss_cons (ps_expr (Lw.pe_cl (c_check_rect T) b_check_rect hr (by decide) (by rfl) pass0 (pa_cons (pv 1) pa_nil)))
      (pss_one (ps_ret (Lw.pe_om (pv 0) cM.ow.cls (c_Mirror_moved T cM) bm_Mirror_moved hr (by decide) pass0 (pa_cons (pv 1) pa_nil))))), ?_⟩
    repeat fail "st"
    refine ⟨_, _, hp, rfl, gb, ?_⟩
    repeat fail "st"
    obtain ⟨dx, t, r1, r2, ha, ht, h1, h2⟩ := id mi
    refine ⟨_, _, _, rfl, ha, rfl, ?_⟩
    repeat fail "st"
    exact ⟨_, l, r, _, b, mi, hp, rfl, q⟩
end

end K06
namespace K06
open PySem PySem.Spec PyProof.Rows L2 Evl Lw
section
variable {P : Program} {w : World} {K : PySem.W.Frag} {mg : Str → Option Value} {base : Heap} {C : Addr}
def Near (far : Int) (l : Int × Bool) : Prop := -far ≤ l.1 ∧ l.1 ≤ far
theorem mi_t {H H' : Hp} {a : Addr} {l r : Int × Bool} (e : ExT H H') (m : MI C H a l r) : MI C H' a l r := by
  obtain ⟨dx, t, r1, r2, h1, h2, h3, h4⟩ := m
  exact ⟨dx, t, r1, r2, e _ _ (fun xs => by intro z; cases z) h1, e _ _ (fun xs => by intro z; cases z) h2, e _ _ (fun xs => by intro z; cases z) h3, e _ _ (fun xs => by intro z; cases z) h4⟩
theorem int_eq (a b : Int) : decide (V.int a = V.int b) = decide (a = b) := by
  by_cases h : a = b
  · subst h; simp
  · rw [decide_eq_false h, decide_eq_false fun z => h (V.int.inj z)]
def spMirror (C : Addr) : Sp := fun vs H Q _ => ∃ p far, vs = [.ref p, .int far] ∧ Pool H p ∧ 1 ≤ far ∧ far ≤ 1000000000000 ∧
  ∀ a m t1 t2 l r H', Ex H H' → H' a = some (.lst [.ref m, .ref t1, .ref t2]) → MI C H' m l r → H' t1 = some (.tup [.int l.1, .bl l.2]) → H' t2 = some (.tup [.int r.1, .bl r.2]) → Near far l → Near far r → Q (.ref a) H'
theorem c_law_mirror (T : Txt K mg) (cM : Own_Mirror K mg C) : Cl P w K mg base CX0 (16) "_law_mirror" s_law_mirror ["_law_pool_here", "_law_far"] (spMirror C) := by
  refine cl_of (k := 15) T.d_law_mirror sc_law_mirror (fun vs H Q E h => ?_) (fun f cdv A outer s H vs Q E hr h => ?_)
  · obtain ⟨p, far, rfl, _⟩ := h
    rfl
  · obtain ⟨p, far, rfl, hp, f0, f1, q⟩ := h
    have nd := sc_law_mirror.nd
    refine ⟨_, (pss_cons (ps_par (i := 2) (j := 3) rfl nd rfl rfl (by decide) rfl rfl (pa_cons (pe_op op_sub (Lw.pe_cl (c_law_draw T) b_law_draw hr (by decide) (by rfl) pass0 (pa_cons (pv 0) (pa_cons (pe_op op_add (pe_op op_mul pe_int (pv 1)) pe_int) pa_nil))) (pv 1)) (pa_cons (pe_op op_sub (Lw.pe_cl (c_law_draw T) b_law_draw hr (by decide) (by rfl) pass0 (pa_cons (pv 0) (pa_cons (pe_op op_add (pe_op op_mul pe_int (pv 1)) pe_int) pa_nil))) (pv 1)) pa_nil)) (by rfl))
      (pss_cons (ps_set (i := 4) nd rfl (Or.inl rfl) (Lw.pe_cl (c_law_draw T) b_law_draw hr (by decide) (by rfl) pass0 (pa_cons (pv 0) (pa_cons pe_int pa_nil))))
      (pss_one (ps_ret (pe_lst (pa_cons (Lw.pe_mkI (g := fun {_} => gk_bi_Mirror___init___2_across_down) (c_Mirror___init__ T cM) bi_Mirror___init___2_across_down rk_bi_Mirror___init___2_across_down (by simp) (by simp) cM.ow.nm hr (by decide) (by rfl) pass0 (pa_cons (pv 2) (pa_cons (pv 3) pa_nil)) (pk_cons (pe_cmpR op_eq (pe_op op_mod (pv 4) pe_int) pe_int (nomark _)) (pk_cons (pe_cmpR op_gt (pv 4) pe_int (nomark _)) pk_nil))) (pa_cons (pe_tup (pa_cons (pv 2) (pa_cons (pe_cmpR op_eq (pe_op op_mod (pv 4) pe_int) pe_int (nomark _)) pa_nil))) (pa_cons (pe_tup (pa_cons (pv 3) (pa_cons (pe_cmpR op_gt (pv 4) pe_int (nomark _)) pa_nil))) pa_nil)))))))), ?_⟩
    repeat fail "st"
    intro d1 H1 e1 d10 d11
    have hp1 := hp.up e1
    repeat fail "st"
    intro d2 H2 e2 d20 d21
    have hp2 := hp1.up e2
    repeat fail "st"
    intro d3 H3 e3 d30 d31
    have hp3 := hp2.up e3
    repeat fail "st"
    intro m dx nx nd ne
    refine mir_made3 (X := d1 - far) (Y := d2 - far) (o := decide (V.int (d3 % 2) = V.int 1)) (d := decide (1 < d3)) nx nd ne fun H4 e4 mm => ?_
    repeat fail "st"
    intro t1 n_t1
    generalize hh : upd _ t1 _ = H_t1
    have e_t1 := newEx hh n_t1
    have h_t1 := newAt hh
    clear hh
    repeat fail "st"
    intro t2 n_t2
    generalize hh : upd _ t2 _ = H_t2
    have e_t2 := newEx hh n_t2
    have h_t2 := newAt hh
    clear hh
    repeat fail "st"
    intro a na
    have en : Ex H_t2 (upd H_t2 a (.lst [.ref m, .ref t1, .ref t2])) := Ex.new na
    have eA := e_t1.trans (e_t2.trans en)
    refine q a m t1 t2 _ _ _ (e1.trans (e2.trans (e3.trans (e4.trans eA)))) upd_same (mm.up eA) ?_ ?_ ⟨?_, ?_⟩ ⟨?_, ?_⟩
    · exact en _ _ (e_t2 _ _ h_t1)
    · exact en _ _ h_t2
    all_goals (try dsimp only); omega
end

end K06
namespace K06
open PySem PySem.Spec PyProof.Rows L2 Evl Lw
section
variable {P : Program} {w : World} {K : PySem.W.Frag} {mg : Str → Option Value} {base : Heap} {C : Addr}
def ways (o d : Bool) : List Str := (if o = true then [Str.ofString "across"] else []) ++ (if d = true then [Str.ofString "down"] else [])
def spTaken : Sp := fun vs H Q _ => ∃ a l u, H a = some (.tup [.int l.1, .bl l.2]) ∧ vs = [.ref a, .int u] ∧ Q (.int (tk l u)) H
theorem c_law_taken (T : Txt K mg) : Cl P w K mg base CX0 1 "_law_taken" s_law_taken ["_law_line", "_law_place"] spTaken := by
  refine cl_of (k := 0) T.d_law_taken sc_law_taken (fun vs H Q E h => ?_) (fun f cdv A outer s H vs Q E hr h => ?_)
  · obtain ⟨a, l, u, _, rfl, _⟩ := h
    rfl
  · obtain ⟨a, ⟨x, o⟩, u, ha, rfl, q⟩ := h
    replace ha : H a = some (.tup [.int x, .bl o]) := ha
    have nd := sc_law_taken.nd
    refine ⟨_, (pss_one (ps_ret (pe_ifExp (pt_val (pe_ix ix_seq (pv 0) pe_int (fun _ _ => rfl))) (pe_op op_sub (pe_ix ix_seq (pv 0) pe_int (fun _ _ => rfl)) (pv 1)) (pe_op op_add (pe_ix ix_seq (pv 0) pe_int (fun _ _ => rfl)) (pv 1))))), ?_⟩
    repeat fail "st"
    refine ifB (fun ho => ?_) (fun ho => ?_) <;> subst ho <;> repeat fail "st"
    all_goals exact q
/-- texts that are not empty are kept -/
def SiftS (ws : List Str) : PeT := fun i o _ => ∃ x, ws[i]? = some x ∧ ((x ≠ Str.ofString "" ∧ o = some (.str x)) ∨ (x = Str.ofString "" ∧ o = none))
theorem siftS_all : ∀ {os : List (Option V)} {ws : List Str} {H : Hp}, os.length = ws.length → (∀ (i : Nat) o, os[i]? = some o → SiftS ws i o H) → os.filterMap id = (ws.filter fun x => decide (x ≠ Str.ofString "")).map V.str
  | [], [], _, _, _ => rfl
  | o :: os, x :: ws, H, hl, h => by
    have ih := siftS_all (os := os) (ws := ws) (H := H) (by simpa using hl) fun i z e => h (i + 1) z e
    obtain ⟨x', e, r⟩ := h 0 o rfl
    cases e
    rcases r with ⟨a, rfl⟩ | ⟨a, rfl⟩
    · show V.str x :: os.filterMap id = _
      rw [ih, List.filter_cons_of_pos (by simpa using a)]
      rfl
    · show os.filterMap id = _
      rw [ih, List.filter_cons_of_neg (by simpa using a)]
  | [], _ :: _, _, hl, _ => by simp at hl
  | _ :: _, [], _, hl, _ => by simp at hl
theorem mulOk_small {z : Str} {n : Int} (h0 : 0 ≤ n) (h1 : n ≤ 1) : MulOk z n := by
  have e : n = 0 ∨ n = 1 := by omega
  rcases e with rfl | rfl
  · exact ⟨rfl, fun h => absurd (by decide) h, fun h => absurd (by decide) h⟩
  · exact ⟨rfl, fun _ h => by simp at h, fun _ h => by simp at h⟩
def spWords : Sp := fun vs H Q _ => ∃ o d, vs = [.bl o, .bl d] ∧ ∀ H', Ex H H' → Q (.str (Txt.join (Str.ofString ", ") (Str.ofString "x" :: Str.ofString "y" :: ways o d))) H'
theorem c_law_words (T : Txt K mg) : Cl P w K mg base CX0 1 "_law_words" s_law_words ["_law_over", "_law_below"] spWords := by
  refine cl_of (k := 0) T.d_law_words sc_law_words (fun vs H Q E h => ?_) (fun f cdv A outer s H vs Q E hr h => ?_)
  · obtain ⟨o, d, rfl, _⟩ := h
    rfl
  · obtain ⟨o, d, rfl, q⟩ := h
    have nd := sc_law_words.nd
    refine ⟨_, (pss_one (ps_ret (pe_join pe_str (pe_lc (own := [("_law_word", 2)]) (g := gName 2) rfl nd (pi_list (pe_lst (pa_cons pe_str (pa_cons pe_str (pa_cons (pe_op Lw.op_mulS pe_str (pe_callTy (call_int1) (by rfl) T.b_int bt_int (pa_cons (pv 0) pa_nil))) (pa_cons (pe_op Lw.op_mulS pe_str (pe_callTy (call_int1) (by rfl) T.b_int bt_int (pa_cons (pv 1) pa_nil))) pa_nil)))))) (L2.blkOk_by (N := N_law_words) (sc := defScope s_law_words) (by decide +kernel)) (fun _ _ _ _ _ => (pg_name (i := 2) nd rfl (Or.inl rfl))) (fun _ _ _ _ _ => (pts_one (pt_cmpR op_ne (pv 2) pe_str (nomark _)))) (fun _ _ _ _ _ => (pv 2)))))), ?_⟩
    repeat fail "st"
    refine ⟨⟨_, rfl⟩, ?_⟩
    repeat fail "st"
    refine .inr ⟨_, rfl, ?_⟩
    repeat fail "st"
    refine ⟨mulOk_small (by split <;> decide) (by split <;> decide), ?_⟩
    repeat fail "st"
    refine .inr ⟨_, rfl, ?_⟩
    repeat fail "st"
    refine ⟨mulOk_small (by split <;> decide) (by split <;> decide), ?_⟩
    repeat fail "st"
    intro l n_l
    generalize hh : upd _ l _ = H_l
    have e_l := newEx hh n_l
    have h_l := newAt hh
    clear hh
    repeat fail "st"
    intro D hD
    obtain ⟨ws, hws⟩ : ∃ ws : List Str, ws = [Str.ofString "x", Str.ofString "y", Txt.mul (Str.ofString "across") (if o = true then 1 else 0), Txt.mul (Str.ofString "down") (if d = true then 1 else 0)] := ⟨_, rfl⟩
    have hl : H_l l = some (.lst (ws.map V.str)) := by
      rw [hws]
      exact h_l
    refine lcL (SiftS ws) (fun _ _ _ _ _ h => h) hD (SqL.of hl) (by rw [hws]; exact Nat.le_of_ble_eq_true rfl) (fun i x hi H' e Q1 Q2 q1 q2 => ?_) (fun H3 os e3 hl3 hD3 hp3 => ?_)
    · rw [List.getElem?_map] at hi
      obtain ⟨y, hy, rfl⟩ := Option.map_eq_some_iff.mp hi
      repeat fail "st"
      refine ifNt (fun c => ?_) (fun c => ?_)
      · repeat fail "st"
        exact q1 _ _ (Ex.refl _) ⟨y, hy, .inl ⟨fun z => of_decide_eq_false c (congrArg V.str z), rfl⟩⟩
      · exact q2 _ (Ex.refl _) ⟨y, hy, .inr ⟨V.str.inj (of_decide_eq_true c), rfl⟩⟩
    · have ef : ws.filter (fun x => decide (x ≠ Str.ofString "")) = Str.ofString "x" :: Str.ofString "y" :: ways o d := by
        rw [hws]
        cases o <;> cases d <;> decide +kernel
      rw [siftS_all (ws := ws) (by rw [hl3, List.length_map]) hp3, ef] at hD3
      repeat fail "st"
      refine ⟨_, D, Str.ofString "x" :: Str.ofString "y" :: ways o d, rfl, rfl, .inl (SqL.of hD3), by cases o <;> cases d <;> decide +kernel, ?_⟩
      exact q _ (e_l.trans e3)
theorem int_len {i : Int} (h : i.natAbs < 2 ^ 1000) : i.natAbs.log2 < 1920 ∧ (Str.ofString (toString i)).length ≤ 2000 := by
  have l := log_small h
  refine ⟨by omega, ?_⟩
  have := int_text_length_le (k := 1000) (by decide) l
  rw [PySem.ofString_length]
  omega
theorem len_app (x y : Str) : (x ++ y).length = x.length + y.length := by
  show (x.cps ++ y.cps).size = _
  rw [Array.size_append]
  rfl
theorem emp_app (x : Str) : Str.empty ++ x = x := by
  have e : (Str.empty ++ x).cps = x.cps := by
    show (#[] : Array Nat) ++ x.cps = x.cps
    rw [Array.empty_append]
  cases x
  exact congrArg Str.mk e
theorem join_eq' (s : Str) (ys : List Str) : Txt.join s ys = Str.join s ys := TL.join_eq s ys
theorem join_len (s : Str) : ∀ ys : List Str, (Str.join s ys).length ≤ (ys.map (·.length)).sum + ys.length * s.length
  | [] => by
    show Str.empty.length ≤ _
    exact Nat.zero_le _
  | [t] => by
    show t.length ≤ _
    simp
  | t :: u :: ts => by
    have ih := join_len s (u :: ts)
    rw [Str.join, len_app, len_app]
    · rw [List.map_cons, List.sum_cons, List.length_cons, Nat.succ_mul]
      omega
    · intro z; cases z
/-- the first of those whose second holds -/
def SiftW (ws : List (Str × Bool)) : PeT := fun i o _ => ∃ x, ws[i]? = some x ∧ ((x.2 = true ∧ o = some (.str x.1)) ∨ (x.2 = false ∧ o = none))
theorem siftW_all : ∀ {os : List (Option V)} {ws : List (Str × Bool)} {H : Hp}, os.length = ws.length → (∀ (i : Nat) o, os[i]? = some o → SiftW ws i o H) → os.filterMap id = ((ws.filter fun x => x.2).map (·.1)).map V.str
  | [], [], _, _, _ => rfl
  | o :: os, x :: ws, H, hl, h => by
    have ih := siftW_all (os := os) (ws := ws) (H := H) (by simpa using hl) fun i z e => h (i + 1) z e
    obtain ⟨x', e, r⟩ := h 0 o rfl
    cases e
    rcases r with ⟨a, rfl⟩ | ⟨a, rfl⟩
    · show V.str x.1 :: os.filterMap id = _
      rw [ih, List.filter_cons_of_pos a]
      rfl
    · show os.filterMap id = _
      rw [ih, List.filter_cons_of_neg (by rw [a]; exact Bool.false_ne_true)]
  | [], _ :: _, _, hl, _ => by simp at hl
  | _ :: _, [], _, hl, _ => by simp at hl
def spRepr (C : Addr) : Sp := fun vs H Q _ => ∃ a l r, MI C H a l r ∧ vs = [.ref a] ∧ l.1.natAbs < 2 ^ 1000 ∧ r.1.natAbs < 2 ^ 1000 ∧ ∀ H', Ex H H' → Q (.str (Str.ofString "Mirror(" ++ Txt.join (Str.ofString ", ") (Str.ofString (toString l.1) :: Str.ofString (toString r.1) :: ways l.2 r.2) ++ Str.ofString ")")) H'
theorem c_Mirror___repr__ (T : Txt K mg) (cM : Own_Mirror K mg C) : Lw.DefM P w K mg base CX0 1 C "__repr__" "Mirror.__repr__" s_Mirror___repr__ ["self"] (spRepr C) := by
  refine defM_of (k := 0) cM.m___repr__ sc_Mirror___repr__ (fun vs H Q E h => ?_) (fun f cdv A outer s H vs Q E hr h => ?_)
  · obtain ⟨a, l, r, _, rfl, _⟩ := h
    rfl
  · obtain ⟨a, ⟨x, o⟩, ⟨y, d⟩, ⟨dx, t, r1, r2, ha, ht, h1, h2⟩, rfl, b1, b2, q⟩ := h
    have nd := sc_Mirror___repr__.nd
    replace h1 : H r1 = some (.tup [.int x, .bl o]) := h1
    replace h2 : H r2 = some (.tup [.int y, .bl d]) := h2
    refine ⟨_, (pss_cons (ps_asg (pe_fld (pv 0) rfl) (pg_tup rfl (pgs_cons (pg_tup rfl (pgs_cons (pg_name (i := 1) nd rfl (Or.inl rfl)) (pgs_cons (pg_name (i := 2) nd rfl (Or.inl rfl)) pgs_nil))) (pgs_cons (pg_tup rfl (pgs_cons (pg_name (i := 3) nd rfl (Or.inl rfl)) (pgs_cons (pg_name (i := 4) nd rfl (Or.inl rfl)) pgs_nil))) pgs_nil))))
      (pss_cons (ps_setLc (own := [("word", 6), ("is_so", 7)]) (g := gTup K 2 (gCons (gName 6) (gCons (gName 7) (gNil)))) (i := 5) rfl nd rfl rfl (sw_true rfl rfl rfl (by decide +kernel)) (pi_list (pe_lst (pa_cons (pe_tup (pa_cons pe_str (pa_cons (pv 2) pa_nil))) (pa_cons (pe_tup (pa_cons pe_str (pa_cons (pv 4) pa_nil))) pa_nil)))) (L2.blkOk_by (N := N_Mirror___repr__) (sc := defScope s_Mirror___repr__) (by decide +kernel)) (fun _ _ _ _ _ => (pg_tup rfl (pgs_cons (pg_name (i := 6) nd rfl (Or.inl rfl)) (pgs_cons (pg_name (i := 7) nd rfl (Or.inl rfl)) pgs_nil)))) (fun _ _ _ _ _ => (pts_one (pt_val (pv 7)))) (fun _ _ _ _ _ => (pv 6)))
      (pss_one (ps_ret (pe_joined (.cons pe_str (.cons (pe_fmt (pe_join pe_str (pe_lst (pa_cons (pe_callTy (call_str_int) (by rfl) T.b_str bt_str (pa_cons (pv 1) pa_nil)) (pa_cons (pe_callTy (call_str_int) (by rfl) T.b_str bt_str (pa_cons (pv 3) pa_nil)) (StX.pa_star (pv 5) pa_nil)))))) (.cons pe_str .nil)))))))), ?_⟩
    repeat fail "st"
    refine ⟨_, _, _, _, _, rfl, ha, cM.ow.cls, cM.ow.no, rfl, ?_⟩
    repeat fail "st"
    intro w1 n_w1
    generalize hh : upd _ w1 _ = H_w1
    have e_w1 := newEx hh n_w1
    have h_w1 := newAt hh
    clear hh
    repeat fail "st"
    intro w2 n_w2
    generalize hh : upd _ w2 _ = H_w2
    have e_w2 := newEx hh n_w2
    have h_w2 := newAt hh
    clear hh
    repeat fail "st"
    intro wl n_wl
    generalize hh : upd _ wl _ = H_wl
    have e_wl := newEx hh n_wl
    have h_wl := newAt hh
    clear hh
    repeat fail "st"
    intro D hD
    have gw1 := e_wl _ _ (e_w2 _ _ h_w1)
    have gw2 := e_wl _ _ h_w2
    refine lcL (SiftW [(Str.ofString "across", o), (Str.ofString "down", d)]) (fun _ _ _ _ _ h => h) hD (SqL.of h_wl) (Nat.le_of_ble_eq_true rfl) (fun i z hi H' e Q1 Q2 q1 q2 => ?_) (fun H3 os e3 hl3 hD3 hp3 => ?_)
    · obtain ⟨t, u, b, rfl, hu, ht'⟩ : ∃ t u b, z = .ref t ∧ [(Str.ofString "across", o), (Str.ofString "down", d)][i]? = some (u, b) ∧ H' t = some (.tup [.str u, .bl b]) := by
        match i, hi with
        | 0, hi => exact ⟨w1, _, _, (Option.some.inj hi).symm, rfl, e _ _ gw1⟩
        | 1, hi => exact ⟨w2, _, _, (Option.some.inj hi).symm, rfl, e _ _ gw2⟩
      repeat fail "st"
      refine ifB (fun c => ?_) (fun c => ?_)
      · repeat fail "st"
        exact q1 _ _ (Ex.refl _) ⟨(u, b), hu, .inl ⟨c, rfl⟩⟩
      · exact q2 _ (Ex.refl _) ⟨(u, b), hu, .inr ⟨c, rfl⟩⟩
    · rw [siftW_all (ws := [(Str.ofString "across", o), (Str.ofString "down", d)]) hl3 hp3] at hD3
      have ew : (([(Str.ofString "across", o), (Str.ofString "down", d)].filter fun x => x.2).map (·.1)) = ways o d := by
        cases o <;> cases d <;> rfl
      rw [ew] at hD3
      have eA := e_w1.trans (e_w2.trans (e_wl.trans e3))
      obtain ⟨lx1, lx2⟩ := int_len (i := x) b1
      obtain ⟨ly1, ly2⟩ := int_len (i := y) b2
      have lw : ((ways o d).map (·.length)).sum ≤ 10 ∧ (ways o d).length ≤ 2 := by cases o <;> cases d <;> decide +kernel
      repeat fail "st"
      refine ⟨Nat.le_trans (show _ ≤ 100 by decide +kernel) (by rw [sizeLine_eq]; decide), ?_⟩
      repeat fail "st"
      refine ⟨⟨_, rfl⟩, ?_⟩
      repeat fail "st"
      refine ⟨lx1, ?_⟩
      repeat fail "st"
      refine ⟨ly1, ?_⟩
      repeat fail "st"
      refine ⟨D, _, rfl, .inr (SqL.of hD3), ?_⟩
      repeat fail "st"
      refine ⟨Nat.le_trans (show (_ : Nat) ≤ 100 by
        simp only [List.length_cons, List.length_append, List.length_map, List.length_nil]
        omega) (by rw [sizeLine_eq]; decide), fun l2 nl2 => ?_⟩
      have hj := join_len (Str.ofString ", ") (Str.ofString (toString x) :: Str.ofString (toString y) :: ways o d)
      have l_sep : (Str.ofString ", ").length = 2 := by decide +kernel
      have l_m : (Str.ofString "Mirror(").length = 7 := by decide +kernel
      have l_c : (Str.ofString ")").length = 1 := by decide +kernel
      rw [List.map_cons, List.map_cons, List.sum_cons, List.sum_cons, List.length_cons, List.length_cons, l_sep] at hj
      rw [← join_eq'] at hj
      refine ⟨_, l2, Str.ofString (toString x) :: Str.ofString (toString y) :: ways o d, rfl, rfl, .inl (SqL.of (by rw [upd_same, List.append_nil]; rfl)), ?_, ?_⟩
      · rw [List.map_cons, List.map_cons, List.sum_cons, List.sum_cons, List.length_cons, List.length_cons, l_sep]
        omega
      refine .inl ⟨_, rfl, by rw [sizeLine_eq]; omega, ?_⟩
      refine ⟨_, rfl, by rw [emp_app, len_app, l_m, sizeLine_eq]; omega, ?_⟩
      refine ⟨_, rfl, by rw [emp_app, len_app, len_app, l_m, l_c, sizeLine_eq]; omega, ?_⟩
      show Q (.str (Str.empty ++ Str.ofString "Mirror(" ++ _ ++ Str.ofString ")")) _
      rw [emp_app]
      exact q _ (eA.trans (Ex.new nl2))
end

end K06
namespace K06
open PySem PySem.Spec PyProof.Rows L2 Evl Lw
section
open PySem.StrLaws
theorem repl_free {a : Nat} {z : List Nat} : ∀ {l : List Nat}, a ∉ l → replL [a] z l = l
  | [], _ => replL_nil
  | c :: r, h => by
    have n : ¬ (c :: r).take [a].length = [a] := fun e => h (by
      have : [c] = [a] := e
      rw [List.cons.inj this |>.1]
      exact List.mem_cons_self)
    rw [replL_miss n, repl_free fun m => h (List.mem_cons_of_mem _ m)]
theorem repl_pre {a : Nat} {z B : List Nat} : ∀ {A : List Nat}, a ∉ A → replL [a] z (A ++ B) = A ++ replL [a] z B
  | [], _ => rfl
  | c :: r, h => by
    have n : ¬ (c :: (r ++ B)).take [a].length = [a] := fun e => h (by
      have : [c] = [a] := e
      rw [List.cons.inj this |>.1]
      exact List.mem_cons_self)
    show replL [a] z (c :: (r ++ B)) = c :: (r ++ replL [a] z B)
    rw [replL_miss n, repl_pre fun m => h (List.mem_cons_of_mem _ m)]
theorem repl_hit1 {a : Nat} {z B : List Nat} : replL [a] z (a :: B) = z ++ replL [a] z B := by
  rw [replL_hit (by simp) rfl]
  rfl
theorem str_ext {x y : Str} (h : x.cps.toList = y.cps.toList) : x = y := by
  cases x
  cases y
  exact congrArg Str.mk (Array.toList_inj.mp h)
theorem cps_app (x y : Str) : (x ++ y).cps.toList = x.cps.toList ++ y.cps.toList := by
  show (x.cps ++ y.cps).toList = _
  rw [Array.toList_append]
def tailW (o d : Bool) : List Nat := (if o = true then [44, 32, 97, 99, 114, 111, 115, 115] else []) ++ (if d = true then [44, 32, 100, 111, 119, 110] else [])
theorem join_w (x y : Str) (o d : Bool) : (Str.join (Str.ofString ", ") (x :: y :: ways o d)).cps.toList = x.cps.toList ++ ([44, 32] ++ (y.cps.toList ++ tailW o d)) := by
  have s : (Str.ofString ", ").cps.toList = [44, 32] := by decide +kernel
  have a : (Str.ofString "across").cps.toList = [97, 99, 114, 111, 115, 115] := by decide +kernel
  have w : (Str.ofString "down").cps.toList = [100, 111, 119, 110] := by decide +kernel
  cases o <;> cases d <;> simp [ways, tailW, Str.join, cps_app, s, a, w]
theorem words_repl (o d : Bool) (X Y : Int) : Txt.replace (Txt.replace (Txt.join (Str.ofString ", ") (Str.ofString "x" :: Str.ofString "y" :: ways o d)) (Str.ofString "x") (Str.ofString (toString X))) (Str.ofString "y") (Str.ofString (toString Y)) =
    Txt.join (Str.ofString ", ") (Str.ofString (toString X) :: Str.ofString (toString Y) :: ways o d) := by
  have hx : (Str.ofString "x").cps.toList = [120] := by decide +kernel
  have hy : (Str.ofString "y").cps.toList = [121] := by decide +kernel
  have fx : (121 : Nat) ∉ (Str.ofString (toString X)).cps.toList := PyProof.Rows.int_text_free' 121 ⟨by decide, by decide⟩ X
  have t1 : (120 : Nat) ∉ [44, 32] ++ ([121] ++ tailW o d) := by cases o <;> cases d <;> decide
  have t2 : (121 : Nat) ∉ tailW o d := by cases o <;> cases d <;> decide
  refine str_ext ?_
  rw [replace_list (by decide +kernel), replace_list (by decide +kernel), join_eq', join_eq', join_w, join_w, hx, hy]
  rw [show ([120] ++ ([44, 32] ++ ([121] ++ tailW o d)) : List Nat) = 120 :: ([44, 32] ++ ([121] ++ tailW o d)) from rfl, repl_hit1, repl_free t1, repl_pre fx,
    repl_pre (A := [44, 32]) (by decide), show ([121] ++ tailW o d : List Nat) = 121 :: tailW o d from rfl, repl_hit1, repl_free t2]
end

end K06
namespace K06
open PySem PySem.Spec PyProof.Rows L2 Evl Lw
section
variable {P : Program} {w : World} {K : PySem.W.Frag} {mg : Str → Option Value} {base : Heap} {C : Addr}
def tkp (l r : Int × Bool) (p : Int × Int) : Int × Int := (tk l p.1, tk r p.2)
def tbox (l r : Int × Bool) (b : Box) : Box := (lst l b.1 b.2.2.1, lst r b.2.1 b.2.2.2, b.2.2.1, b.2.2.2)
theorem tk_in {l : Int × Bool} {s w u : Int} : (lst l s w ≤ tk l u ∧ tk l u < lst l s w + w) ↔ s ≤ u ∧ u < s + w := by
  obtain ⟨a, x⟩ := l
  cases x <;> simp [lst, tk] <;> omega
theorem tk_back {l : Int × Bool} {v : Int} : ∃ u, tk l u = v := by
  obtain ⟨a, x⟩ := l
  cases x
  · exact ⟨v - a, by simp [tk]; omega⟩
  · exact ⟨a - v, by simp [tk]; omega⟩
theorem tk_inj {l : Int × Bool} {u v : Int} (h : tk l u = tk l v) : u = v := by
  obtain ⟨a, x⟩ := l
  cases x <;> simp [tk] at h <;> omega
theorem tbox_in {l r : Int × Bool} {b : Box} {p : Int × Int} : InBox (tbox l r b) (tkp l r p) ↔ InBox b p := by
  have h1 := tk_in (l := l) (s := b.1) (w := b.2.2.1) (u := p.1)
  have h2 := tk_in (l := r) (s := b.2.1) (w := b.2.2.2) (u := p.2)
  constructor
  · rintro ⟨a, c, d, e⟩
    have x := h1.mp ⟨a, c⟩
    have y := h2.mp ⟨d, e⟩
    exact ⟨x.1, x.2, y.1, y.2⟩
  · rintro ⟨a, c, d, e⟩
    have x := h1.mpr ⟨a, c⟩
    have y := h2.mpr ⟨d, e⟩
    exact ⟨x.1, x.2, y.1, y.2⟩
theorem far_same {l r : Int × Bool} {b : Box} {ps rs qs : List (Int × Int)} (l1 : ps.Pairwise Lex) (m1 : ∀ p, p ∈ ps ↔ InBox b p) (pm : rs.Perm (ps.map (tkp l r))) (s : rs.Pairwise fun p q => SrtO.lexB q p = false) (l2 : qs.Pairwise Lex) (m2 : ∀ p, p ∈ qs ↔ InBox (tbox l r b) p) : rs = qs := by
  have nd : ps.Nodup := l1.imp fun {x y} h e => by
    rw [e] at h
    exact lex_irr h
  have nd2 : (ps.map (tkp l r)).Nodup := List.pairwise_map.mpr (nd.imp fun h e => h (Prod.ext (tk_inj (congrArg Prod.fst e)) (tk_inj (congrArg Prod.snd e))))
  refine lex_uniq (lex_of s (pm.nodup_iff.mpr nd2)) l2 fun p => ?_
  rw [pm.mem_iff, m2]
  constructor
  · intro h
    obtain ⟨z, hz, rfl⟩ := List.mem_map.mp h
    exact tbox_in.mpr ((m1 z).mp hz)
  · intro h
    obtain ⟨u, hu⟩ := tk_back (l := l) (v := p.1)
    obtain ⟨v, hv⟩ := tk_back (l := r) (v := p.2)
    have e : p = tkp l r (u, v) := Prod.ext hu.symm hv.symm
    rw [e] at h ⊢
    exact List.mem_map.mpr ⟨(u, v), (m1 _).mpr (tbox_in.mp h), rfl⟩
theorem eq_box {H : Hp} {a b : Addr} {x y z u x' y' z' u' : Int} {Q : VK} (h : H a = some (.tup [.int x, .int y, .int z, .int u])) (h' : H b = some (.tup [.int x', .int y', .int z', .int u'])) (e1 : x = x') (e2 : y = y') (e3 : z = z') (e4 : u = u') (q : Q (.bl true) H) : rEqD K (.ref a) (.ref b) H Q := by
  subst e1 e2 e3 e4
  have sh : SeqAt.shaped (.tuple [.int x, .int y, .int z, .int u]) = true := by simp [SeqAt.shaped, PyData.canLay0, PyData.canLayAll0, PyData.depth, PyData.depthAll]
  refine ⟨_, _, .tup (SqT.of h) (.cons (.int _) (.cons (.int _) (.cons (.int _) (.cons (.int _) .nil)))), .tup (SqT.of h') (.cons (.int _) (.cons (.int _) (.cons (.int _) (.cons (.int _) .nil)))), sh, sh, ?_⟩
  rw [SeqAt.eqv_refl _ (SeqAt.canLay_of_shaped sh)]
  exact q
theorem rows_snoc {H : Hp} {q : Addr} {p : Int × Int} (hq : RowAt H q p) : ∀ {qs : List Addr} {ps : List (Int × Int)}, Rows H qs ps → Rows H (qs ++ [q]) (ps ++ [p])
  | _, _, .nil => .cons hq .nil
  | _, _, .cons h t => .cons h (rows_snoc hq t)
theorem rows_but {H H' : Hp} {a : Addr} {xs : List V} (e : But a H H') (ha : H a = some (.lst xs)) : ∀ {qs : List Addr} {ps : List (Int × Int)}, Rows H qs ps → Rows H' qs ps
  | _, _, .nil => .nil
  | _, _, .cons h t => .cons (e _ _ (fun z => by
      have h' := z ▸ h
      rw [show H a = _ from h'] at ha
      cases ha) h) (rows_but e ha t)
def spImgR (C : Addr) : Sp := fun vs H Q _ => ∃ m t1 t2 p l r b, MI C H m l r ∧ H t1 = some (.tup [.int l.1, .bl l.2]) ∧ H t2 = some (.tup [.int r.1, .bl r.2]) ∧ BoxAt H p b ∧ SmallBox b ∧ vs = [.ref m, .ref t1, .ref t2, .ref p] ∧ ∀ H', Ex H H' → Q (.bl true) H'
set_option maxHeartbeats 16000000 in
theorem c_law_image_right (T : Txt K mg) (cM : Own_Mirror K mg C) : Cl P w K mg base CX0 (9) "_law_image_right" s_law_image_right ["_law_map_here", "_law_over", "_law_below", "_law_box_here"] (spImgR C) := by
  refine cl_of (k := 8) T.d_law_image_right sc_law_image_right (fun vs H Q E h => ?_) (fun f cdv A outer s H vs Q E hr h => ?_)
  · obtain ⟨m, t1, t2, p, l, r, b, _, _, _, _, _, rfl, _⟩ := h
    rfl
  · obtain ⟨m, t1, t2, p, l, r, b, M, h1, h2, hb, sb, rfl, q⟩ := h
    have nd := sc_law_image_right.nd
    refine ⟨_, (pss_cons (ps_par (i := 4) (j := 5) rfl nd rfl rfl (by decide) rfl rfl (pa_cons (Lw.pe_om (pv 0) cM.ow.cls (c_Mirror_image T cM) bm_Mirror_image hr (by decide) pass0 (pa_cons (pv 3) pa_nil)) (pa_cons (pe_lst pa_nil) pa_nil)) (by rfl))
      (pss_cons (ps_if (PW.pt (pw_or (pt_cmpR (op_neD hr.units) (pe_slice sl_tup (pv 4) (po_some pe_int) po_none) (pe_slice sl_tup (pv 3) (po_some pe_int) po_none) (nomark _)) (pw_or1 (pt_cmpR (op_neD hr.units) (Lw.pe_omk (g := fun {_} => gk_bq_Mirror_image_rect) (pv 0) cM.ow.cls (c_Mirror_image T cM) bq_Mirror_image_rect rk_bq_Mirror_image_rect hr (by decide) pass0 (pk_cons (pv 3) pk_nil)) (pv 4) (nomark _))))) (pss_one (ps_ret pe_bl)) pss_nil)
      (pss_cons (ps_for PassesOwn.never rfl (pi_list (Lw.pe_cl (c_law_spots T) b_law_spots hr (by decide) (by rfl) pass0 (pa_cons (pe_lst (pa_cons (pv 3) pa_nil)) pa_nil))) (pg_tup rfl (pgs_cons (pg_name (i := 6) nd rfl (Or.inl rfl)) (pgs_cons (pg_name (i := 7) nd rfl (Or.inl rfl)) pgs_nil))) (pss_one (ps_expr (pe_bm PySem.F.plainAttrs_list PySem.F.slot_list_append PySem.F.type_list_append mt_append (pv 5) (pa_cons (pe_tup (pa_cons (Lw.pe_cl (c_law_taken T) b_law_taken hr (by decide) (by rfl) pass0 (pa_cons (pv 1) (pa_cons (pv 6) pa_nil))) (pa_cons (Lw.pe_cl (c_law_taken T) b_law_taken hr (by decide) (by rfl) pass0 (pa_cons (pv 2) (pa_cons (pv 7) pa_nil))) pa_nil))) pa_nil)))))
      (pss_one (ps_ret (pe_cmpR (op_eqD hr.units) (pe_callB (cr_sortedPO) (by rfl) T.b_sorted bt_sorted (pa_cons (pv 5) pa_nil)) (Lw.pe_cl (c_law_spots T) b_law_spots hr (by decide) (by rfl) pass0 (pa_cons (pe_lst (pa_cons (pv 4) pa_nil)) pa_nil)) (nomark _))))))), ?_⟩
    repeat fail "st"
    obtain ⟨dx, t, ra, rb, ha, _⟩ := id M
    refine ⟨_, _, _, rfl, ha, rfl, ?_⟩
    repeat fail "st"
    refine ⟨_, _, _, _, _, M, hb, rfl, sb.good, fun iq H1 e1 hq0 => ?_⟩
    clear ha
    obtain ⟨tb, htb⟩ : ∃ c : Box, c = tbox l r b := ⟨_, rfl⟩
    have hq : H1 iq = some (.tup [.int tb.1, .int tb.2.1, .int tb.2.2.1, .int tb.2.2.2]) := by
      rw [htb]
      exact hq0
    have w1 : tb.2.2.1 = b.2.2.1 := by rw [htb]; rfl
    have w2 : tb.2.2.2 = b.2.2.2 := by rw [htb]; rfl
    have M := M.up e1; have h1 := e1 _ _ h1; have h2 := e1 _ _ h2; have hb := e1 _ _ hb
    clear hq0
    repeat fail "st"
    intro fr n_fr
    generalize hh : upd _ fr _ = H_fr
    have e_fr := newEx hh n_fr
    have h_fr := newAt hh
    clear hh
    repeat fail "st"
    refine ⟨(by show ¬ (HT.sIx 4 0 _ = 0 ∧ HT.sIx 4 4 _ = 4); decide), ?_⟩
    intro s1 n_s1
    generalize hh : upd _ s1 _ = H_s1
    have e_s1 := newEx hh n_s1
    have h_s1 := newAt hh
    clear hh
    replace h_s1 : H_s1 s1 = some (.tup (.int tb.2.2.1 :: .int tb.2.2.2 :: [])) := h_s1
    repeat fail "st"
    refine ⟨(by show ¬ (HT.sIx 4 0 _ = 0 ∧ HT.sIx 4 4 _ = 4); decide), ?_⟩
    intro s2 n_s2
    generalize hh : upd _ s2 _ = H_s2
    have e_s2 := newEx hh n_s2
    have h_s2 := newAt hh
    clear hh
    replace h_s2 : H_s2 s2 = some (.tup (.int b.2.2.1 :: .int b.2.2.2 :: [])) := h_s2
    repeat fail "st"
    refine ne_pt (e_s2 _ _ h_s1) h_s2 w1 w2 ?_
    have eB := e_fr.trans (e_s1.trans e_s2)
    have h_fr := e_s2 _ _ (e_s1 _ _ h_fr)
    have M := M.up eB; have h1 := eB _ _ h1; have h2 := eB _ _ h2; have hb := eB _ _ hb; have hq := eB _ _ hq
    clear e_s1 e_s2 h_s1 h_s2 e_fr
    repeat fail "st"
    obtain ⟨dx2, t3, rc, rd, ha, _⟩ := id M
    refine ⟨_, _, _, rfl, ha, rfl, ?_⟩
    repeat fail "st"
    refine ⟨_, _, _, _, _, M, hb, rfl, sb.good, fun iq2 H2 e2 hq2 => ?_⟩
    clear ha
    repeat fail "st"
    refine ne_ov (o := some tb) ⟨iq2, rfl, by rw [htb]; exact hq2⟩ ⟨iq, rfl, e2 _ _ hq⟩ ?_
    have M := M.up e2; have h1 := e2 _ _ h1; have h2 := e2 _ _ h2; have hb := e2 _ _ hb; have hq := e2 _ _ hq; have h_fr := e2 _ _ h_fr; have eB := eB.trans e2
    clear e2 hq2
    repeat fail "st"
    intro lb n_lb
    generalize hh : upd _ lb _ = H_lb
    have e_lb := newEx hh n_lb
    have h_lb := newAt hh
    clear hh
    repeat fail "st"
    refine ⟨_, [p], [b], SqL.of h_lb, rfl, .cons (e_lb _ _ hb) .nil, (by show 1 ≤ 100; decide), one_small sb, fun l2 ks ps H3 e3 hl2 rk lx mm len => ?_⟩
    have eC := e_lb.trans e3
    have M := M.up eC; have h1 := eC _ _ h1; have h2 := eC _ _ h2; have hb := eC _ _ hb; have hq := eC _ _ hq; have h_fr := eC _ _ h_fr; have eB := eB.trans eC
    clear eC e_lb e3 h_lb
    have lk : ks.length = ps.length := Paired.length rk
    repeat fail "st"
    refine for_list (xs := ks.map V.ref) (fun i σ H' => ∃ y1 y2 qs, σ = [some (.ref m), some (.ref t1), some (.ref t2), some (.ref p), some (.ref iq), some (.ref fr), y1, y2] ∧ But fr H3 H' ∧ Ex H1 H' ∧ H' fr = some (.lst (qs.map V.ref)) ∧ Rows H' qs ((ps.take i).map (tkp l r)) ∧ i ≤ ps.length) ?_ ?_ ?_ ?_
    · exact ⟨_, _, [], rfl, But.refl, eB, h_fr, .nil, Nat.zero_le _⟩
    · rintro i _ H' _ ⟨y1, y2, qs, rfl, bt, _, hfr, rq, _⟩
      by_cases z : l2 = fr
      · subst z
        rw [h_fr] at hl2
        cases ks with
        | nil =>
          cases ps with
          | nil =>
            rw [List.take_nil] at rq
            cases rq
            exact SqL.of hfr
          | cons c cs => cases lk
        | cons c cs => cases hl2
      · exact SqL.of (bt _ _ z hl2)
    · rintro i x _ H' hx ⟨y1, y2, qs, rfl, bt, eD, hfr, rq, il⟩
      obtain ⟨y, pt, rfl, _, hpp, rp⟩ := rows_at' rk hx
      have nt : ∀ {c xs}, H3 c = some (.tup xs) → H' c = some (.tup xs) := fun {c xs} h => bt _ _ (fun z => by rw [z, h_fr] at h; cases h) h
      have rp' := nt rp
      have g1 := nt h1
      have g2 := nt h2
      have li := Paired.length rq
      have ip := (List.getElem?_eq_some_iff.mp hpp).1
      rw [List.length_map, List.length_take] at li
      repeat fail "st"
      refine ⟨.inl ⟨rfl, _, SqL.of hfr⟩, ?_⟩
      repeat fail "st"
      refine ⟨t1, l, _, g1, rfl, ?_⟩
      repeat fail "st"
      refine ⟨t2, r, _, g2, rfl, ?_⟩
      repeat fail "st"
      intro tp n_tp
      generalize hh : upd _ tp _ = H_tp
      have e_tp := newEx hh n_tp
      have h_tp := newAt hh
      clear hh
      have hfr2 := e_tp _ _ hfr
      refine ⟨fr, _, _, rfl, rfl, hfr2, Nat.lt_of_lt_of_le (show _ < 6000 by rw [List.length_map]; omega) (by decide), ?_⟩
      have ne : tp ≠ fr := fun z => by rw [z, hfr] at n_tp; cases n_tp
      refine ⟨_, _, qs ++ [tp], rfl, But.mut (bt.up e_tp), Ex.mut (eD.trans e_tp) n_fr, by rw [upd_same, List.map_append]; rfl, ?_, ip⟩
      rw [List.take_add_one, hpp, Option.toList_some, List.map_append]
      exact rows_snoc (by show upd H_tp fr _ tp = _; rw [upd_ne ne]; exact h_tp) (rows_but (But.mut But.refl) hfr2 (rq.up e_tp))
    · rintro _ H' ⟨y1, y2, qs, rfl, bt, eD, hfr, rq, il⟩
      have nt : ∀ {c xs}, H3 c = some (.tup xs) → H' c = some (.tup xs) := fun {c xs} h => bt _ _ (fun z => by rw [z, h_fr] at h; cases h) h
      have hq' := nt hq
      rw [List.length_map, lk, List.take_length] at rq
      repeat fail "st"
      dsimp only [tNil]
      refine srt_rows (K := K) (SqL.of hfr) rq fun sp js rs nsp rj pm srt => ?_
      generalize hh : upd H' sp _ = H4
      have e4 := newEx hh nsp
      have h4 := newAt hh
      clear hh
      have hq4 := e4 _ _ hq'
      repeat fail "st"
      intro lc n_lc
      generalize hh : upd _ lc _ = H_lc
      have e_lc := newEx hh n_lc
      have h_lc := newAt hh
      clear hh
      repeat fail "st"
      refine ⟨_, [iq], [tb], SqL.of h_lc, rfl, .cons (e_lc _ _ hq4) .nil, (by show 1 ≤ 100; decide), (fun c m => ?_), fun l5 kz pz H5 e5 hl5 rk5 lx5 mm5 len5 => ?_⟩
      · obtain rfl := List.mem_singleton.mp m
        rw [htb]
        exact sb.small
      have same : rs = pz := far_same (l := l) (r := r) (b := b) lx (fun z => by rw [mm z]; simp) pm srt lx5 (fun z => by rw [mm5 z, htb]; simp)
      subst same
      have eZ := e_lc.trans e5
      refine eq_pts (eZ _ _ h4) ((rj.up e4).up eZ) hl5 rk5 ?_
      repeat fail "st"
      exact q _ (e1.trans (eD.trans (e4.trans eZ)))
def spEmpR (C : Addr) : Sp := fun vs H Q _ => ∃ (t1 t2 p : Addr) (l r : Int × Bool) (b : Box), H t1 = some (.tup [.int l.1, .bl l.2]) ∧ H t2 = some (.tup [.int r.1, .bl r.2]) ∧ BoxAt H p b ∧ SmallBox b ∧ vs = [.ref t1, .ref t2, .ref p] ∧ ∀ H', Ex H H' → Q (.bl true) H'
set_option maxHeartbeats 16000000 in
theorem c_law_empty_right (T : Txt K mg) (cM : Own_Mirror K mg C) : Cl P w K mg base CX0 (16) "_law_empty_right" s_law_empty_right ["_law_over", "_law_below", "_law_box_here"] (spEmpR C) := by
  refine cl_of (k := 15) T.d_law_empty_right sc_law_empty_right (fun vs H Q E h => ?_) (fun f cdv A outer s H vs Q E hr h => ?_)
  · obtain ⟨t1, t2, p, l, r, b, _, _, _, _, rfl, _⟩ := h
    rfl
  · obtain ⟨t1, t2, p, ⟨x, o⟩, ⟨y, d⟩, b, h1, h2, hb, sb, rfl, q⟩ := h
    replace h1 : H t1 = some (.tup [.int x, .bl o]) := h1
    replace h2 : H t2 = some (.tup [.int y, .bl d]) := h2
    have nd := sc_law_empty_right.nd
    refine ⟨_, (pss_cons (ps_set (i := 3) nd rfl (Or.inl rfl) (Lw.pe_om (Lw.pe_mkI (g := fun {_} => gk_bi_Mirror___init___2_across_down) (c_Mirror___init__ T cM) bi_Mirror___init___2_across_down rk_bi_Mirror___init___2_across_down (by simp) (by simp) cM.ow.nm hr (by decide) (by rfl) pass0 (pa_cons (pe_ix ix_seq (pv 0) pe_int (fun _ _ => rfl)) (pa_cons (pe_ix ix_seq (pv 1) pe_int (fun _ _ => rfl)) pa_nil)) (pk_cons (pe_ix ix_seq (pv 0) pe_int (fun _ _ => rfl)) (pk_cons (pe_ix ix_seq (pv 1) pe_int (fun _ _ => rfl)) pk_nil))) cM.ow.cls (c_Mirror_image T cM) bm_Mirror_image hr (by decide) pass0 (pa_cons (pv 2) pa_nil)))
      (pss_cons (ps_set (i := 4) nd rfl (Or.inl rfl) (pe_ifExp (pt_val (pe_ix ix_seq (pv 0) pe_int (fun _ _ => rfl))) (pe_op op_add (pe_op op_sub (pe_op op_sub (pe_ix ix_seq (pv 0) pe_int (fun _ _ => rfl)) (pe_ix ix_seq (pv 2) pe_int (fun _ _ => rfl))) (pe_ix ix_seq (pv 2) pe_int (fun _ _ => rfl))) pe_int) (pe_op op_add (pe_ix ix_seq (pv 0) pe_int (fun _ _ => rfl)) (pe_ix ix_seq (pv 2) pe_int (fun _ _ => rfl)))))
      (pss_cons (ps_set (i := 5) nd rfl (Or.inl rfl) (pe_ifExp (pt_val (pe_ix ix_seq (pv 1) pe_int (fun _ _ => rfl))) (pe_op op_add (pe_op op_sub (pe_op op_sub (pe_ix ix_seq (pv 1) pe_int (fun _ _ => rfl)) (pe_ix ix_seq (pv 2) pe_int (fun _ _ => rfl))) (pe_ix ix_seq (pv 2) pe_int (fun _ _ => rfl))) pe_int) (pe_op op_add (pe_ix ix_seq (pv 1) pe_int (fun _ _ => rfl)) (pe_ix ix_seq (pv 2) pe_int (fun _ _ => rfl)))))
      (pss_one (ps_ret (pe_cmpR (op_eqD hr.units) (pv 3) (pe_tup (pa_cons (pv 4) (pa_cons (pv 5) (pa_cons (pe_ix ix_seq (pv 2) pe_int (fun _ _ => rfl)) (pa_cons (pe_ix ix_seq (pv 2) pe_int (fun _ _ => rfl)) pa_nil))))) (nomark _))))))), ?_⟩
    repeat fail "st"
    intro mo dx_mo nx_mo nd_mo ne_mo
    refine mir_made3 (X := x) (Y := y) (o := o) (d := d) nx_mo nd_mo ne_mo fun H_mo e_mo M_mo => ⟨rfl, ?_⟩
    repeat fail "st"
    have h1 := e_mo _ _ h1; have h2 := e_mo _ _ h2; have hb := e_mo _ _ hb
    obtain ⟨dx, t, ra, rb, ha, _⟩ := id M_mo
    refine ⟨_, _, _, rfl, ha, rfl, ?_⟩
    repeat fail "st"
    refine ⟨_, _, _, _, _, M_mo, hb, rfl, sb.good, fun iq H1 e1 hq => ?_⟩
    clear ha
    have h1 := e1 _ _ h1; have h2 := e1 _ _ h2; have hb := e1 _ _ hb
    have eA := e_mo.trans e1
    try dsimp only [List.set]
    cases o with
    | true =>
      cases d with
      | true =>
        repeat fail "st"
        intro t2x n_t2x
        generalize hh : upd _ t2x _ = H_t2x
        have e_t2x := newEx hh n_t2x
        have h_t2x := newAt hh
        clear hh
        refine eq_box (e_t2x _ _ hq) h_t2x rfl rfl rfl rfl ?_
        repeat fail "st"
        exact q _ (eA.trans e_t2x)
      | false =>
        repeat fail "st"
        intro t2x n_t2x
        generalize hh : upd _ t2x _ = H_t2x
        have e_t2x := newEx hh n_t2x
        have h_t2x := newAt hh
        clear hh
        refine eq_box (e_t2x _ _ hq) h_t2x rfl rfl rfl rfl ?_
        repeat fail "st"
        exact q _ (eA.trans e_t2x)
    | false =>
      cases d with
      | true =>
        repeat fail "st"
        intro t2x n_t2x
        generalize hh : upd _ t2x _ = H_t2x
        have e_t2x := newEx hh n_t2x
        have h_t2x := newAt hh
        clear hh
        refine eq_box (e_t2x _ _ hq) h_t2x rfl rfl rfl rfl ?_
        repeat fail "st"
        exact q _ (eA.trans e_t2x)
      | false =>
        repeat fail "st"
        intro t2x n_t2x
        generalize hh : upd _ t2x _ = H_t2x
        have e_t2x := newEx hh n_t2x
        have h_t2x := newAt hh
        clear hh
        refine eq_box (e_t2x _ _ hq) h_t2x rfl rfl rfl rfl ?_
        repeat fail "st"
        exact q _ (eA.trans e_t2x)
end

end K06
namespace K06
open PySem PySem.Spec PyProof.Rows L2 Evl Lw
section
variable {P : Program} {w : World} {K : PySem.W.Frag} {mg : Str → Option Value} {base : Heap} {C : Addr}
theorem ne_nb (b : Bool) : (!decide ((V.bl !b) = V.bl b)) = true := by cases b <;> rfl
theorem near_eq (l r l2 r2 : Int × Bool) : decide (l = (l.1 + tk l2 0, !decide (V.bl l.2 = V.bl l2.2)) ∧ r = (r.1, !decide (V.bl r.2 = V.bl r2.2))) = (decide (tk l2 0 = 0) && !l2.2 && !r2.2) := by
  obtain ⟨a, o⟩ := l
  obtain ⟨b, d⟩ := r
  obtain ⟨a2, o2⟩ := l2
  obtain ⟨b2, d2⟩ := r2
  rw [Bool.eq_iff_iff]
  cases o <;> cases d <;> cases o2 <;> cases d2 <;> simp [tk, Prod.ext_iff] <;> omega
theorem int_small {i : Int} (h0 : -50 ≤ i) (h1 : i ≤ 50) : i.natAbs.log2 < 1920 ∧ (Str.ofString (toString i)).length ≤ 11 ∧ i.natAbs < 2 ^ 1000 := by
  have l : i.natAbs.log2 < 10 := by
    by_cases z : i.natAbs = 0
    · rw [z]; decide
    · exact (Nat.log2_lt z).mpr (by omega)
  refine ⟨by omega, ?_, Nat.lt_of_lt_of_le (show i.natAbs < 100 by omega) (by decide)⟩
  have := int_text_length_le (k := 10) (by decide) l
  rw [PySem.ofString_length]
  omega
theorem ne_int {c : Nat} {y : Str} (hy : c ∈ y.cps.toList) (hc : c ≠ 45 ∧ (c < 48 ∨ 57 < c)) (m : Int) : (y == Str.ofString (toString m)) = false :=
  beq_eq_false_iff_ne.mpr fun e => PyProof.Rows.int_text_free' c hc m (by rw [← e]; exact hy)
theorem len_w (o d : Bool) : (Txt.join (Str.ofString ", ") (Str.ofString "x" :: Str.ofString "y" :: ways o d)).length ≤ 30 := by cases o <;> cases d <;> decide +kernel
set_option maxHeartbeats 16000000 in
theorem c_law_right (T : Txt K mg) (cM : Own_Mirror K mg C) : Cl P w K mg base CX0 (17) "_law_right" s_law_right ["_law_pool_here"] spCheck := by
  refine cl_of (k := 16) T.d_law_right sc_law_right (fun vs H Q E h => ?_) (fun f cdv A outer s H vs Q E hr h => ?_)
  · obtain ⟨p, rfl, _⟩ := h
    rfl
  · obtain ⟨p, rfl, hp, q⟩ := h
    have nd := sc_law_right.nd
    refine ⟨_, (pss_cons (ps_asg (Lw.pe_cl (c_law_mirror T cM) b_law_mirror hr (by decide) (by rfl) pass0 (pa_cons (pv 0) (pa_cons pe_int pa_nil))) (pg_lst rfl (pgs_cons (pg_name (i := 1) nd rfl (Or.inl rfl)) (pgs_cons (pg_name (i := 2) nd rfl (Or.inl rfl)) (pgs_cons (pg_name (i := 3) nd rfl (Or.inl rfl)) pgs_nil)))))
      (pss_cons (ps_for PassesOwn.never rfl (pi_range1 (by rfl) T.b_range (pa_cons pe_int pa_nil)) (pg_name (i := 4) nd rfl (Or.inl rfl)) (pss_cons (ps_par (i := 5) (j := 6) rfl nd rfl rfl (by decide) rfl rfl (pa_cons (pe_op op_sub (Lw.pe_cl (c_law_draw T) b_law_draw hr (by decide) (by rfl) pass0 (pa_cons (pv 0) (pa_cons pe_int pa_nil))) pe_int) (pa_cons (pe_op op_sub (Lw.pe_cl (c_law_draw T) b_law_draw hr (by decide) (by rfl) pass0 (pa_cons (pv 0) (pa_cons pe_int pa_nil))) pe_int) pa_nil)) (by rfl))
      (pss_cons (ps_set (i := 7) nd rfl (Or.inl rfl) (pe_tup (pa_cons (Lw.pe_cl (c_law_taken T) b_law_taken hr (by decide) (by rfl) pass0 (pa_cons (pv 2) (pa_cons (pv 5) pa_nil))) (pa_cons (Lw.pe_cl (c_law_taken T) b_law_taken hr (by decide) (by rfl) pass0 (pa_cons (pv 3) (pa_cons (pv 6) pa_nil))) pa_nil))))
      (pss_one (ps_if (PW.pt (pw_or (pt_cmpR (op_neD hr.units) (Lw.pe_co (pv 1) (c_Mirror___call__ T cM) bm_Mirror___call__ hr (by decide) pass0 (pa_cons (pv 5) (pa_cons (pv 6) pa_nil))) (pv 7) (nomark _)) (pw_or1 (pt_cmpR (op_neD hr.units) (Lw.pe_cok (g := fun {_} => gk_bq_Mirror___call___v_u) (pv 1) (c_Mirror___call__ T cM) bq_Mirror___call___v_u rk_bq_Mirror___call___v_u hr (by decide) pass0 (pk_cons (pv 6) (pk_cons (pv 5) pk_nil))) (pv 7) (nomark _))))) (pss_one (ps_ret pe_bl)) pss_nil)))))
      (pss_cons (ps_set (i := 8) nd rfl (Or.inl rfl) (Lw.pe_cl (c_law_box T) b_law_box hr (by decide) (by rfl) pass0 (pa_cons (pv 0) pa_nil)))
      (pss_cons (ps_if (PW.pt (pw_or (pt_not (pt_val (Lw.pe_cl (c_law_image_right T cM) b_law_image_right hr (by decide) (by rfl) pass0 (pa_cons (pv 1) (pa_cons (pv 2) (pa_cons (pv 3) (pa_cons (pv 8) pa_nil))))))) (pw_or1 (pt_not (pt_val (Lw.pe_cl (c_law_empty_right T cM) b_law_empty_right hr (by decide) (by rfl) pass0 (pa_cons (pv 2) (pa_cons (pv 3) (pa_cons (pv 8) pa_nil))))))))) (pss_one (ps_ret pe_bl)) pss_nil)
      (pss_cons (ps_set (i := 9) nd rfl (Or.inl rfl) (Lw.PEk.pe (Lw.pek_repl (Lw.pek_repl (Lw.pek_call (c_law_words T) b_law_words hr (by decide) (by rfl) pass0 (Lw.pek_ix ix_seq (pv 2) (fun _ _ => rfl)) (pa_cons (pe_ix ix_seq (pv 3) pe_int (fun _ _ => rfl)) pa_nil)) (pe_ix ix_seq (pv 2) pe_int (fun _ _ => rfl)) (by rfl) T.b_str bt_str) (pe_ix ix_seq (pv 3) pe_int (fun _ _ => rfl)) (by rfl) T.b_str bt_str)))
      (pss_cons (ps_if (pt_cmpR op_ne (pe_callB (Lw.call_reprI (c_Mirror___repr__ T cM) bm_Mirror___repr__ hr (by decide) pass0) (by rfl) T.b_repr bt_repr (pa_cons (pv 1) pa_nil)) (pe_op op_add_str (pe_op op_add_str pe_str (pv 9)) pe_str) (nomark _)) (pss_one (ps_ret pe_bl)) pss_nil)
      (pss_cons (ps_asg (Lw.pe_cl (c_law_mirror T cM) b_law_mirror hr (by decide) (by rfl) pass0 (pa_cons (pv 0) (pa_cons pe_int pa_nil))) (pg_lst rfl (pgs_cons (pg_name (i := 10) nd rfl (Or.inl rfl)) (pgs_cons (pg_name (i := 11) nd rfl (Or.inl rfl)) (pgs_cons (pg_name (i := 12) nd rfl (Or.inl rfl)) pgs_nil)))))
      (pss_cons (ps_set (i := 13) nd rfl (Or.inl rfl) (Lw.pe_mkI (g := fun {_} => gk_bi_Mirror___init___2_across_down) (c_Mirror___init__ T cM) bi_Mirror___init___2_across_down rk_bi_Mirror___init___2_across_down (by simp) (by simp) cM.ow.nm hr (by decide) (by rfl) pass0 (pa_cons (pe_op op_add (pe_ix ix_seq (pv 2) pe_int (fun _ _ => rfl)) (pe_ix ix_seq (Lw.pe_co (pv 10) (c_Mirror___call__ T cM) bm_Mirror___call__ hr (by decide) pass0 (pa_cons pe_int (pa_cons pe_int pa_nil))) pe_int (fun _ _ => rfl))) (pa_cons (pe_ix ix_seq (pv 3) pe_int (fun _ _ => rfl)) pa_nil)) (pk_cons (pe_cmpR op_ne (pe_ix ix_seq (pv 2) pe_int (fun _ _ => rfl)) (pe_ix ix_seq (pv 11) pe_int (fun _ _ => rfl)) (nomark _)) (pk_cons (pe_cmpR op_ne (pe_ix ix_seq (pv 3) pe_int (fun _ _ => rfl)) (pe_ix ix_seq (pv 12) pe_int (fun _ _ => rfl)) (nomark _)) pk_nil))))
      (pss_cons (ps_set (i := 14) nd rfl (Or.inl rfl) (pe_and (pe_cmpR op_eq (pe_ix ix_seq (Lw.pe_co (pv 10) (c_Mirror___call__ T cM) bm_Mirror___call__ hr (by decide) pass0 (pa_cons pe_int (pa_cons pe_int pa_nil))) pe_int (fun _ _ => rfl)) pe_int (nomark _)) (pe_and (pe_not (pe_ix ix_seq (pv 11) pe_int (fun _ _ => rfl))) (pe_one (pe_not (pe_ix ix_seq (pv 12) pe_int (fun _ _ => rfl)))))))
      (pss_one (ps_ret (pe_and (pe_cmpR op_eq (pe_cmpR (Lw.op_eqI (c_Mirror___eq__ T cM) bm_Mirror___eq__ cM.ow hr (by decide) pass0) (pv 1) (pv 13) (nomark _)) (pv 14) (nomark _)) (pe_one (pe_cmpR op_ne (pe_cmpR (Lw.op_neI (c_Mirror___eq__ T cM) bm_Mirror___eq__ cM.ow hr (by decide) pass0) (pv 1) (pv 13) (nomark _)) (pv 14) (nomark _))))))))))))))), ?_⟩
    repeat fail "st"
    intro a1 m t1 t2 l r H1 e1 ha1 M h1 h2 n1 n2
    have hp1 := hp.up e1
    repeat fail "st"
    refine for_range (fun _ σ H' => ∃ y4 y5 y6 y7, σ = [some (.ref p), some (.ref m), some (.ref t1), some (.ref t2), y4, y5, y6, y7, none, none, none, none, none, none, none] ∧ Ex H1 H') ?_ ?_ ?_
    · exact ⟨_, _, _, _, rfl, Ex.refl _⟩
    · rintro i _ H2 hi ⟨y4, y5, y6, y7, rfl, e2⟩
      have hp2 := hp1.up e2
      have h1 := e2 _ _ h1
      have h2 := e2 _ _ h2
      have M := M.up e2
      repeat fail "st"
      intro d1 H3 e3 _ _
      have hp3 := hp2.up e3
      repeat fail "st"
      intro d2 H4 e4 _ _
      have e34 := e3.trans e4
      have h1 := e34 _ _ h1
      have h2 := e34 _ _ h2
      have M := M.up e34
      repeat fail "st"
      refine ⟨t1, l, _, h1, rfl, ?_⟩
      repeat fail "st"
      refine ⟨t2, r, _, h2, rfl, ?_⟩
      repeat fail "st"
      intro du n_du
      generalize hh : upd _ du _ = H_du
      have e_du := newEx hh n_du
      have h_du := newAt hh
      clear hh
      have M := M.up e_du
      repeat fail "st"
      refine ⟨M.ins, _, _, _, _, _, M, rfl, fun a2 H_a2 e_a2 h_a2 => ?_⟩
      repeat fail "st"
      refine ne_pt h_a2 (e_a2 _ _ h_du) rfl rfl ?_
      have M := M.up e_a2
      repeat fail "st"
      refine ⟨M.ins, rfl, _, _, _, _, _, M, rfl, fun a3 H_a3 e_a3 h_a3 => ?_⟩
      repeat fail "st"
      refine ne_pt h_a3 (e_a3 _ _ (e_a2 _ _ h_du)) rfl rfl ?_
      repeat fail "st"
      exact ⟨_, _, _, _, rfl, e2.trans (e34.trans (e_du.trans (e_a2.trans e_a3)))⟩
    · rintro _ H2 ⟨y4, y5, y6, y7, rfl, e2⟩
      have hp2 := hp1.up e2
      have h1 := e2 _ _ h1
      have h2 := e2 _ _ h2
      have M := M.up e2
      repeat fail "st"
      intro tb b H3 e3 hb sb
      have h1 := e3 _ _ h1; have h2 := e3 _ _ h2; have M := M.up e3; have hp3 := hp2.up e3
      have eA := e1.trans (e2.trans e3)
      clear e1 e2 e3 hp1 hp2
      try dsimp only [List.set]
      repeat fail "st"
      refine ⟨m, t1, t2, tb, l, r, b, M, h1, h2, hb, sb, rfl, fun H4 e4 => ?_⟩
      have h1 := e4 _ _ h1; have h2 := e4 _ _ h2; have M := M.up e4; have hp4 := hp3.up e4; have hb := e4 _ _ hb; have eA := eA.trans e4
      clear e4 hp3
      repeat fail "st"
      refine ⟨t1, t2, tb, l, r, b, h1, h2, hb, sb, rfl, fun H5 e5 => ?_⟩
      have h1 := e5 _ _ h1; have h2 := e5 _ _ h2; have M := M.up e5; have hp5 := hp4.up e5; have eA := eA.trans e5
      clear e5 hp4 hb
      repeat fail "st"
      intro H6 e6
      have h1 := e6 _ _ h1; have h2 := e6 _ _ h2; have M := M.up e6; have hp6 := hp5.up e6; have eA := eA.trans e6
      clear e6 hp5
      obtain ⟨lx1, lx2, lx3⟩ := int_small (i := l.1) (by have := n1.1; omega) (by have := n1.2; omega)
      obtain ⟨ly1, ly2, ly3⟩ := int_small (i := r.1) (by have := n2.1; omega) (by have := n2.2; omega)
      have lw := len_w l.2 r.2
      have l_sep : (Str.ofString ", ").length = 2 := by decide +kernel
      have l_m : (Str.ofString "Mirror(").length = 7 := by decide +kernel
      have l_c : (Str.ofString ")").length = 1 := by decide +kernel
      have lways : ((ways l.2 r.2).map (·.length)).sum ≤ 10 ∧ (ways l.2 r.2).length ≤ 2 := by cases l.2 <;> cases r.2 <;> decide +kernel
      have hW : (Txt.join (Str.ofString ", ") (Str.ofString (toString l.1) :: Str.ofString (toString r.1) :: ways l.2 r.2)).length ≤ 100 := by
        rw [join_eq']
        refine Nat.le_trans (join_len _ _) ?_
        rw [List.map_cons, List.map_cons, List.sum_cons, List.sum_cons, List.length_cons, List.length_cons, l_sep]
        omega
      have hR := TK.replace_len (Txt.join (Str.ofString ", ") (Str.ofString "x" :: Str.ofString "y" :: ways l.2 r.2)) (Str.ofString "x") (Str.ofString (toString l.1))
      have hm := Nat.mul_le_mul (show (Txt.join (Str.ofString ", ") (Str.ofString "x" :: Str.ofString "y" :: ways l.2 r.2)).length + 1 ≤ 31 by omega) lx2
      repeat fail "st"
      refine ⟨lx1, ne_int (c := 120) (by decide +kernel) ⟨by decide, by decide⟩ _, by omega, ?_⟩
      have hR2 : (Txt.replace (Txt.join (Str.ofString ", ") (Str.ofString "x" :: Str.ofString "y" :: ways l.2 r.2)) (Str.ofString "x") (Str.ofString (toString l.1))).length ≤ 400 := by omega
      have hm2 := Nat.mul_le_mul (show (Txt.replace (Txt.join (Str.ofString ", ") (Str.ofString "x" :: Str.ofString "y" :: ways l.2 r.2)) (Str.ofString "x") (Str.ofString (toString l.1))).length + 1 ≤ 401 by omega) ly2
      repeat fail "st"
      refine ⟨ly1, ne_int (c := 121) (by decide +kernel) ⟨by decide, by decide⟩ _, by omega, ?_⟩
      rw [words_repl]
      generalize hWe : Txt.join (Str.ofString ", ") (Str.ofString (toString l.1) :: Str.ofString (toString r.1) :: ways l.2 r.2) = W at *
      try dsimp only [List.set]
      repeat fail "st"
      obtain ⟨dx, fs, ha⟩ := M.ins
      refine ⟨_, _, _, rfl, ha, _, l, r, M, rfl, lx3, ly3, fun H7 e7 => ⟨_, rfl, ?_⟩⟩
      rw [hWe]
      clear ha hR hm hR2 hm2 lw
      have h1 := e7 _ _ h1; have h2 := e7 _ _ h2; have M := M.up e7; have hp7 := hp6.up e7; have eA := eA.trans e7
      clear e7 hp6
      repeat fail "st"
      refine ⟨by rw [sizeLine_eq]; omega, ?_⟩
      repeat fail "st"
      refine ⟨by rw [len_app, sizeLine_eq]; omega, ?_⟩
      repeat fail "st"
      refine ifNt (fun c => absurd rfl (of_decide_eq_false c)) (fun _ => ?_)
      repeat fail "st"
      intro a2 m2 t3 t4 l2 r2 H8 e8 ha2 M2 g1 g2 _ _
      have h1 := e8 _ _ h1; have h2 := e8 _ _ h2; have M := M.up e8; have eA := eA.trans e8
      clear e8 hp7
      repeat fail "st"
      try dsimp only [List.set]
      refine ⟨M2.ins, _, _, _, _, _, M2, rfl, fun a5 H_a5 e_a5 h_a5 => ?_⟩
      repeat fail "st"
      have h1 := e_a5 _ _ h1; have h2 := e_a5 _ _ h2; have g1 := e_a5 _ _ g1; have g2 := e_a5 _ _ g2; have M := M.up e_a5; have M2 := M2.up e_a5; have eA := eA.trans e_a5
      clear e_a5 ha2
      repeat fail "st"
      intro nr dx_nr nx_nr nd_nr ne_nr
      refine mir_made3 (X := (l.1 + tk l2 0)) (Y := r.1) (o := (!decide (V.bl l.2 = V.bl l2.2))) (d := (!decide (V.bl r.2 = V.bl r2.2))) nx_nr nd_nr ne_nr fun H_nr e_nr M_nr => ⟨rfl, ?_⟩
      repeat fail "st"
      have g1 := e_nr _ _ g1; have g2 := e_nr _ _ g2; have M := M.up e_nr; have M2 := M2.up e_nr; have eA := eA.trans e_nr
      clear e_nr h_a5 h1 h2
      try dsimp only [List.set]
      repeat fail "st"
      refine ⟨M2.ins, _, _, _, _, _, M2, rfl, fun a6 H_a6 e_a6 h_a6 => ?_⟩
      repeat fail "st"
      have g1 := e_a6 _ _ g1; have g2 := e_a6 _ _ g2; have M := M.up e_a6; have MN := M_nr.up e_a6; have eA := eA.trans e_a6
      clear e_a6 M_nr
      repeat fail "st"
      refine ifD (fun c => ?_) (fun c => ?_)
      · have c0 : tk l2 0 = 0 := V.int.inj c
        repeat fail "st"
        refine ifNt (fun c2 => ?_) (fun c2 => ?_)
        · have hx : (decide (tk l2 0 = 0) && !l2.2 && !r2.2) = !r2.2 := by rw [c0, c2]; rfl
          repeat fail "st"
          obtain ⟨dx, fs, ga⟩ := M.ins
          obtain ⟨dy, gs, gb⟩ := MN.ins
          refine ⟨_, _, _, rfl, ga, .inl ⟨_, _, _, rfl, gb⟩, _, _, _, _, M, rfl, .inl ⟨_, _, _, rfl, MN, _, rfl, ?_⟩⟩
          rw [near_eq l r l2 r2, hx]
          repeat fail "st"
          try refine ifD (fun _ => ?_) (fun z => (z rfl).elim)
          repeat fail "st"
          obtain ⟨dx, fs, ga⟩ := M.ins
          obtain ⟨dy, gs, gb⟩ := MN.ins
          refine ⟨_, _, _, rfl, ga, .inl ⟨_, _, _, rfl, gb⟩, _, _, _, _, M, rfl, .inl ⟨_, _, _, rfl, MN, _, rfl, ?_⟩⟩
          rw [near_eq l r l2 r2, hx]
          repeat fail "st"
          first
            | exact q _ eA
            | (rw [ne_nb]; exact q _ eA)
        · have hx : (decide (tk l2 0 = 0) && !l2.2 && !r2.2) = false := by rw [c0, c2]; rfl
          repeat fail "st"
          obtain ⟨dx, fs, ga⟩ := M.ins
          obtain ⟨dy, gs, gb⟩ := MN.ins
          refine ⟨_, _, _, rfl, ga, .inl ⟨_, _, _, rfl, gb⟩, _, _, _, _, M, rfl, .inl ⟨_, _, _, rfl, MN, _, rfl, ?_⟩⟩
          rw [near_eq l r l2 r2, hx]
          repeat fail "st"
          try refine ifD (fun _ => ?_) (fun z => (z rfl).elim)
          repeat fail "st"
          obtain ⟨dx, fs, ga⟩ := M.ins
          obtain ⟨dy, gs, gb⟩ := MN.ins
          refine ⟨_, _, _, rfl, ga, .inl ⟨_, _, _, rfl, gb⟩, _, _, _, _, M, rfl, .inl ⟨_, _, _, rfl, MN, _, rfl, ?_⟩⟩
          rw [near_eq l r l2 r2, hx]
          repeat fail "st"
          first
            | exact q _ eA
            | (rw [ne_nb]; exact q _ eA)
      · have hx : (decide (tk l2 0 = 0) && !l2.2 && !r2.2) = false := by
          rw [decide_eq_false fun z => c (congrArg V.int z)]
          rfl
        repeat fail "st"
        obtain ⟨dx, fs, ga⟩ := M.ins
        obtain ⟨dy, gs, gb⟩ := MN.ins
        refine ⟨_, _, _, rfl, ga, .inl ⟨_, _, _, rfl, gb⟩, _, _, _, _, M, rfl, .inl ⟨_, _, _, rfl, MN, _, rfl, ?_⟩⟩
        rw [near_eq l r l2 r2, hx]
        repeat fail "st"
        try refine ifD (fun _ => ?_) (fun z => (z rfl).elim)
        repeat fail "st"
        obtain ⟨dx, fs, ga⟩ := M.ins
        obtain ⟨dy, gs, gb⟩ := MN.ins
        refine ⟨_, _, _, rfl, ga, .inl ⟨_, _, _, rfl, gb⟩, _, _, _, _, M, rfl, .inl ⟨_, _, _, rfl, MN, _, rfl, ?_⟩⟩
        rw [near_eq l r l2 r2, hx]
        repeat fail "st"
        first
          | exact q _ eA
          | (rw [ne_nb]; exact q _ eA)
set_option maxHeartbeats 16000000 in
theorem c_law_plain_right (T : Txt K mg) (cM : Own_Mirror K mg C) : Cl P w K mg base CX0 (16) "_law_plain_right" s_law_plain_right ["_law_pool_here"] spCheck := by
  refine cl_of (k := 15) T.d_law_plain_right sc_law_plain_right (fun vs H Q E h => ?_) (fun f cdv A outer s H vs Q E hr h => ?_)
  · obtain ⟨p, rfl, _⟩ := h
    rfl
  · obtain ⟨p, rfl, hp, q⟩ := h
    have nd := sc_law_plain_right.nd
    refine ⟨_, (pss_cons (ps_par (i := 1) (j := 2) rfl nd rfl rfl (by decide) rfl rfl (pa_cons (pe_op op_sub (Lw.pe_cl (c_law_draw T) b_law_draw hr (by decide) (by rfl) pass0 (pa_cons (pv 0) (pa_cons pe_int pa_nil))) pe_int) (pa_cons (pe_op op_sub (Lw.pe_cl (c_law_draw T) b_law_draw hr (by decide) (by rfl) pass0 (pa_cons (pv 0) (pa_cons pe_int pa_nil))) pe_int) pa_nil)) (by rfl))
      (pss_cons (ps_set (i := 3) nd rfl (Or.inr rfl) (Lw.pe_mkI (g := fun {_} => gk_bi_Mirror___init___2_) (c_Mirror___init__ T cM) bi_Mirror___init___2_ rk_bi_Mirror___init___2_ (by simp) (by simp) cM.ow.nm hr (by decide) (by rfl) pass0 (pa_cons (pv 1) (pa_cons (pv 2) pa_nil)) pk_nil))
      (pss_cons (ps_set (i := 4) nd rfl (Or.inl rfl) (pe_lst (pa_cons (Lw.pe_mkI0 (g := fun {_} => gk_bi_Mirror___init___0_y_x) (c_Mirror___init__ T cM) bi_Mirror___init___0_y_x rk_bi_Mirror___init___0_y_x (by simp) (by simp) cM.ow.nm hr (by decide) (by rfl) pass0 (pk_cons (pv 2) (pk_cons (pv 1) pk_nil))) (pa_cons (Lw.pe_mkI (g := fun {_} => gk_bi_Mirror___init___2_across) (c_Mirror___init__ T cM) bi_Mirror___init___2_across rk_bi_Mirror___init___2_across (by simp) (by simp) cM.ow.nm hr (by decide) (by rfl) pass0 (pa_cons (pv 1) (pa_cons (pv 2) pa_nil)) (pk_cons pe_bl pk_nil)) (pa_cons (Lw.pe_mkI (g := fun {_} => gk_bi_Mirror___init___2_down_across) (c_Mirror___init__ T cM) bi_Mirror___init___2_down_across rk_bi_Mirror___init___2_down_across (by simp) (by simp) cM.ow.nm hr (by decide) (by rfl) pass0 (pa_cons (pv 1) (pa_cons (pv 2) pa_nil)) (pk_cons pe_bl (pk_cons pe_bl pk_nil))) pa_nil)))))
      (pss_cons (ps_if (PW.pt (pw_or (pt_not (Lw.pt_truthR (pv 3) (Lw.tru_ins cM.nb cM.nl) (by intro _; rfl))) (pw_or (pt_not (Lw.pt_truthR (Lw.pe_mkI (g := fun {_} => gk_bi_Mirror___init___2_) (c_Mirror___init__ T cM) bi_Mirror___init___2_ rk_bi_Mirror___init___2_ (by simp) (by simp) cM.ow.nm hr (by decide) (by rfl) pass0 (pa_cons pe_int (pa_cons pe_int pa_nil)) pk_nil) (Lw.tru_ins cM.nb cM.nl) (by intro _; rfl))) (pw_or1 (pt_not (pt_val (pe_callB (cr_all rfl) (by rfl) T.b_all bt_all (pa_cons (pe_lc (own := [("_law_mate", 5)]) (g := gName 5) (tt := tYes) rfl nd (pi_list (pv 4)) (L2.blkOk_by (N := N_law_plain_right) (sc := defScope s_law_plain_right) (by decide +kernel)) (fun _ _ _ _ _ => (pg_name (i := 5) nd rfl (Or.inl rfl))) (fun _ _ _ _ _ => pts_nil) (fun _ _ _ _ _ => (pe_cmpR (Lw.op_eqI (c_Mirror___eq__ T cM) bm_Mirror___eq__ cM.ow hr (by decide) pass0) (pv 3) (pv 5) (nomark _)))) pa_nil)))))))) (pss_one (ps_ret pe_bl)) pss_nil)
      (pss_cons (ps_if (PW.pt (pw_or (pt_cmpR (Lw.op_eqI (c_Mirror___eq__ T cM) bm_Mirror___eq__ cM.ow hr (by decide) pass0) (pv 3) (Lw.pe_mkI (g := fun {_} => gk_bi_Mirror___init___2_down) (c_Mirror___init__ T cM) bi_Mirror___init___2_down rk_bi_Mirror___init___2_down (by simp) (by simp) cM.ow.nm hr (by decide) (by rfl) pass0 (pa_cons (pv 1) (pa_cons (pv 2) pa_nil)) (pk_cons pe_bl pk_nil)) (nomark _)) (pw_or1 (pt_cmpR (Lw.op_eqI (c_Mirror___eq__ T cM) bm_Mirror___eq__ cM.ow hr (by decide) pass0) (pv 3) (pe_tup (pa_cons (pv 1) (pa_cons (pv 2) pa_nil))) (nomark _))))) (pss_one (ps_ret pe_bl)) pss_nil)
      (pss_one (ps_ret (pe_and (pe_cmpR (op_eqD hr.units) (Lw.pe_co (pv 3) (c_Mirror___call__ T cM) bm_Mirror___call__ hr (by decide) pass0 (pa_cons pe_int (pa_cons pe_int pa_nil))) (pe_tup (pa_cons (pe_op op_add (pv 1) pe_int) (pa_cons (pe_op op_add (pv 2) pe_int) pa_nil))) (nomark _)) (pe_one (pe_cmpR (op_eqD hr.units) (Lw.pe_co (Lw.pe_mkI (g := fun {_} => gk_bi_Mirror___init___2_across) (c_Mirror___init__ T cM) bi_Mirror___init___2_across rk_bi_Mirror___init___2_across (by simp) (by simp) cM.ow.nm hr (by decide) (by rfl) pass0 (pa_cons (pv 1) (pa_cons (pv 2) pa_nil)) (pk_cons pe_bl pk_nil)) (c_Mirror___call__ T cM) bm_Mirror___call__ hr (by decide) pass0 (pa_cons pe_int (pa_cons pe_int pa_nil))) (pe_tup (pa_cons (pe_op op_sub (pv 1) pe_int) (pa_cons (pe_op op_add (pv 2) pe_int) pa_nil))) (nomark _))))))))))), ?_⟩
    repeat fail "st"
    intro c1 H1 e1 _ _
    have hp1 := hp.up e1
    repeat fail "st"
    intro c2 H2 e2 _ _
    have eA := e1.trans e2
    clear e1 e2 hp1 hp
    repeat fail "st"
    dsimp (config := { proj := false }) only [List.set]
    generalize c1 - 20 = x
    generalize c2 - 20 = y
    repeat fail "st"
    intro pl dx_pl nx_pl nd_pl ne_pl
    refine mir_made3 (X := x) (Y := y) (o := false) (d := false) nx_pl nd_pl ne_pl fun H_pl e_pl M_pl => ⟨rfl, ?_⟩
    repeat fail "st"
    have eA := eA.trans e_pl
    clear e_pl
    repeat fail "st"
    intro s1 dx_s1 nx_s1 nd_s1 ne_s1
    refine mir_made3 (X := x) (Y := y) (o := false) (d := false) nx_s1 nd_s1 ne_s1 fun H_s1 e_s1 M_s1 => ⟨rfl, ?_⟩
    repeat fail "st"
    have MP := M_pl.up e_s1; have eA := eA.trans e_s1
    clear e_s1 M_pl
    repeat fail "st"
    intro s2 dx_s2 nx_s2 nd_s2 ne_s2
    refine mir_made3 (X := x) (Y := y) (o := false) (d := false) nx_s2 nd_s2 ne_s2 fun H_s2 e_s2 M_s2 => ⟨rfl, ?_⟩
    repeat fail "st"
    have MP := MP.up e_s2; have M1 := M_s1.up e_s2; have eA := eA.trans e_s2
    clear e_s2 M_s1
    repeat fail "st"
    intro s3 dx_s3 nx_s3 nd_s3 ne_s3
    refine mir_made3 (X := x) (Y := y) (o := false) (d := false) nx_s3 nd_s3 ne_s3 fun H_s3 e_s3 M_s3 => ⟨rfl, ?_⟩
    repeat fail "st"
    have MP := MP.up e_s3; have M1 := M1.up e_s3; have M2 := M_s2.up e_s3; have eA := eA.trans e_s3
    clear e_s3 M_s2
    repeat fail "st"
    intro sl n_sl
    generalize hh : upd _ sl _ = H_sl
    have e_sl := newEx hh n_sl
    have h_sl := newAt hh
    clear hh
    have MP := MP.up e_sl; have M1 := M1.up e_sl; have M2 := M2.up e_sl; have M3 := M_s3.up e_sl; have eA := eA.trans e_sl
    clear e_sl M_s3
    repeat fail "st"
    obtain ⟨dxp, fsp, ha⟩ := MP.ins
    refine ⟨_, _, _, rfl, ha, ?_⟩
    clear ha
    repeat fail "st"
    intro z1 dx_z1 nx_z1 nd_z1 ne_z1
    refine mir_made3 (X := 0) (Y := 0) (o := false) (d := false) nx_z1 nd_z1 ne_z1 fun H_z1 e_z1 M_z1 => ⟨rfl, ?_⟩
    repeat fail "st"
    have MP := MP.up e_z1; have M1 := M1.up e_z1; have M2 := M2.up e_z1; have M3 := M3.up e_z1; have h_sl := e_z1 _ _ h_sl; have eA := eA.trans e_z1
    clear e_z1
    repeat fail "st"
    obtain ⟨dxz, fsz, ha⟩ := M_z1.ins
    refine ⟨_, _, _, rfl, ha, ?_⟩
    clear ha
    repeat fail "st"
    intro D hD
    refine lcL (All fun _ v _ => v = V.bl true) (all_mono fun _ _ _ _ _ h => h) hD (SqL.of h_sl) (Nat.le_of_ble_eq_true rfl) (fun i v hi H' e Q1 Q2 q1 q2 => ?_) (fun H3 os e3 hl3 hD3 hp3 => ?_)
    · obtain ⟨ms, MS, rfl⟩ : ∃ ms, MI C H' ms (x, false) (y, false) ∧ v = .ref ms := by
        match i, hi with
        | 0, hi => exact ⟨s1, M1.up e, (Option.some.inj hi).symm⟩
        | 1, hi => exact ⟨s2, M2.up e, (Option.some.inj hi).symm⟩
        | 2, hi => exact ⟨s3, M3.up e, (Option.some.inj hi).symm⟩
      have MQ := MP.up e
      repeat fail "st"
      obtain ⟨dx, fs, ga⟩ := MQ.ins
      obtain ⟨dy, gs, gb⟩ := MS.ins
      refine ⟨_, _, _, rfl, ga, .inl ⟨_, _, _, rfl, gb⟩, _, _, _, _, MQ, rfl, .inl ⟨_, _, _, rfl, MS, _, rfl, ?_⟩⟩
      rw [decide_eq_true (show (x, false) = (x, false) ∧ (y, false) = (y, false) from ⟨rfl, rfl⟩)]
      repeat fail "st"
      exact q1 _ _ (Ex.refl _) ⟨_, rfl, rfl⟩
    obtain ⟨ys, ey, ly, hy⟩ := All.end hp3
    rw [ey] at hD3
    obtain ⟨bs, eb, hb⟩ := all_true (ys := ys) (fun y hy1 => by
      obtain ⟨i, hi, e⟩ := List.getElem_of_mem hy1
      exact hy i y (by rw [List.getElem?_eq_getElem hi, e]))
    subst eb
    have MP := MP.up e3; have eA := eA.trans e3
    clear e3 hy ey ly hp3 hl3 h_sl M1 M2 M3
    refine ⟨_, _, rfl, SqL.of hD3, ?_⟩
    rw [hb]
    repeat fail "st"
    intro z2 dx_z2 nx_z2 nd_z2 ne_z2
    refine mir_made3 (X := x) (Y := y) (o := false) (d := true) nx_z2 nd_z2 ne_z2 fun H_z2 e_z2 M_z2 => ⟨rfl, ?_⟩
    repeat fail "st"
    have MP := MP.up e_z2; have eA := eA.trans e_z2
    clear e_z2
    repeat fail "st"
    obtain ⟨dx, fs, ga⟩ := MP.ins
    obtain ⟨dy, gs, gb⟩ := M_z2.ins
    refine ⟨_, _, _, rfl, ga, .inl ⟨_, _, _, rfl, gb⟩, _, _, _, _, MP, rfl, .inl ⟨_, _, _, rfl, M_z2, _, rfl, ?_⟩⟩
    rw [decide_eq_false (show ¬ ((x, false) = (x, false) ∧ (y, false) = (y, true)) from fun z => by cases z.2)]
    repeat fail "st"
    intro t0 n_t0
    generalize hh : upd _ t0 _ = H_t0
    have e_t0 := newEx hh n_t0
    have h_t0 := newAt hh
    clear hh
    have MP := MP.up e_t0; have eA := eA.trans e_t0
    clear e_t0
    repeat fail "st"
    obtain ⟨dxq, fsq, ha⟩ := MP.ins
    refine ⟨_, _, _, rfl, ha, .inr ⟨_, _, rfl, h_t0⟩, _, _, _, _, MP, rfl, .inr ⟨_, _, rfl, h_t0, _, rfl, ?_⟩⟩
    clear ha
    repeat fail "st"
    refine ⟨MP.ins, _, _, _, _, _, MP, rfl, fun b1 H_b1 e_b1 h_b1 => ?_⟩
    repeat fail "st"
    intro u1 n_u1
    generalize hh : upd _ u1 _ = H_u1
    have e_u1 := newEx hh n_u1
    have h_u1 := newAt hh
    clear hh
    refine eq_pt (e_u1 _ _ h_b1) h_u1 ?_
    rw [decide_eq_true (show tk (x, false) 1 = x + 1 ∧ tk (y, false) 2 = y + 2 from ⟨rfl, rfl⟩)]
    have eA := eA.trans (e_b1.trans e_u1)
    clear e_b1 e_u1
    repeat fail "st"
    intro z3 dx_z3 nx_z3 nd_z3 ne_z3
    refine mir_made3 (X := x) (Y := y) (o := true) (d := false) nx_z3 nd_z3 ne_z3 fun H_z3 e_z3 M_z3 => ⟨rfl, ?_⟩
    repeat fail "st"
    repeat fail "st"
    refine ⟨M_z3.ins, _, _, _, _, _, M_z3, rfl, fun b2 H_b2 e_b2 h_b2 => ?_⟩
    repeat fail "st"
    intro u2 n_u2
    generalize hh : upd _ u2 _ = H_u2
    have e_u2 := newEx hh n_u2
    have h_u2 := newAt hh
    clear hh
    refine eq_pt (e_u2 _ _ h_b2) h_u2 ?_
    rw [decide_eq_true (show tk (x, true) 1 = x - 1 ∧ tk (y, false) 2 = y + 2 from ⟨rfl, rfl⟩)]
    repeat fail "st"
    exact q _ (eA.trans (e_z3.trans (e_b2.trans e_u2)))
end

end K06
namespace K06
open PySem PySem.Spec PyProof.Rows L2 Evl Lw
section
variable {P : Program} {w : World} {K : PySem.W.Frag} {mg : Str → Option Value} {base : Heap} {C : Addr}
theorem c_lawG (T : Txt K mg) (cM : Own_Mirror K mg C) : ClG P w K mg base CX0 18 "law" s_law ["_law_script"] (spLaw K) := by
  refine clG_of (k := 17) T.d_law sc_law (fun vs H Q E h => ?_) (fun f cdv A outer s H vs Q E gd hr h => ?_)
  · obtain ⟨a, ns, rfl, _⟩ := h
    rfl
  · obtain ⟨a, ns, rfl, hS, hl, q⟩ := h
    have nd := sc_law.nd
    refine ⟨_, (pss_cons (ps_for PassesOwn.never rfl (pi_range1 (by rfl) T.b_range (pa_cons (pe_callB (call_max2 rfl) (by rfl) T.b_max bt_max (pa_cons pe_int (pa_cons (pe_callB (call_min2 rfl) (by rfl) T.b_min bt_min (pa_cons (pe_callB (call_len) (by rfl) T.b_len bt_len (pa_cons (pv 0) pa_nil)) (pa_cons pe_int pa_nil))) pa_nil))) pa_nil)) (pg_name (i := 1) nd rfl (Or.inl rfl)) (pss_cons (ps_set (i := 2) nd rfl (Or.inr rfl) (Lw.pe_cl (c_law_pool T) b_law_pool hr (by decide) (by rfl) pass0 (pa_cons (Lw.pe_cl (c_law_cell T) b_law_cell hr (by decide) (by rfl) pass0 (pa_cons (pv 0) (pa_cons (pv 1) pa_nil))) pa_nil)))
      (pss_one (ps_if (PW.pt (pw_or (pt_not (pt_val (pe_callB (cr_all rfl) (by rfl) T.b_all bt_all (pa_cons (pe_lc (own := [("_law_turn", 3)]) (g := gName 3) (tt := tYes) rfl nd (pi_range1 (by rfl) T.b_range (pa_cons pe_int pa_nil)) (L2.blkOk_by (N := N_law) (sc := defScope s_law) (by decide +kernel)) (fun _ _ _ _ _ => (pg_name (i := 3) nd rfl (Or.inl rfl))) (fun _ _ _ _ _ => pts_nil) (fun _ _ _ _ _ => (Lw.pe_cl (c_law_right T cM) b_law_right hr (by decide) (by rfl) pass0 (pa_cons (pv 2) pa_nil)))) pa_nil)))) (pw_or1 (pt_not (pt_val (Lw.pe_cl (c_law_plain_right T cM) b_law_plain_right hr (by decide) (by rfl) pass0 (pa_cons (pv 2) pa_nil))))))) (pss_one (ps_ret pe_bl)) pss_nil))))
      (pss_one (ps_ret pe_bl))), ?_⟩
    repeat fail "st"
    refine for_range (fun _ σ H' => ∃ y z u, σ = [some (.ref a), y, z, u] ∧ Ex H H') ⟨_, _, _, rfl, Ex.refl _⟩ ?_ ?_
    · rintro i _ H' hi ⟨y, z, u, rfl, e⟩
      have hi6 : i ≤ 6 := by
        revert hi
        (repeat' split) <;> omega
      have hS' := ex_l e hS
      repeat fail "st"
      refine ⟨_, _, _, rfl, (by fail "sql"), hl, by omega, by omega, fun c Hc ec => ?_⟩
      repeat fail "st"
      intro pl Hp np ep pp
      repeat fail "st"
      intro D hD
      refine lcR (All fun _ v _ => v = V.bl true) (all_mono fun _ _ _ _ _ h => h) hD (by decide) (fun j hj H1 e1 Q1 Q2 q1 q2 => ?_) (fun H2 os e2 hl2 hD2 hp2 => ?_)
      · have pp1 := pp.up e1
        repeat fail "st"
        intro H3 e3
        exact q1 _ _ e3 ⟨_, rfl, rfl⟩
      · obtain ⟨ys, ey, ly, hy⟩ := All.end hp2
        rw [ey] at hD2
        obtain ⟨bs, eb, hb⟩ := all_true (ys := ys) (fun y hy1 => by
          obtain ⟨i, hi, e⟩ := List.getElem_of_mem hy1
          exact hy i y (by rw [List.getElem?_eq_getElem hi, e]))
        subst eb
        have pp2 := pp.up e2
        refine ⟨_, _, rfl, SqL.of hD2, ?_⟩
        rw [hb]
        repeat fail "st"
        intro H3 e3
        repeat fail "st"
        exact ⟨_, _, _, rfl, e.trans (ec.trans (ep.trans (e2.trans e3)))⟩
    · rintro _ H' ⟨y, z, u, rfl, e⟩
      repeat fail "st"
      exact q _
theorem law_mk {l : PySem.W.OpenLaw} {h : Heap} {fa : Addr} (T : Txt K mg) (hfa : mg "law" = some (.ref fa)) : LawG l w K CX0 18 63 "_law_script" mg fa h := by
  obtain ⟨fd, F, b⟩ := law_fd T.d_law b_law hfa
  obtain ⟨C, cM⟩ := T.o_Mirror
  refine ⟨fd, [], spLaw K, fun p m => ?_, fun p m => ?_, fun p m => ?_, b, fun H a ns hl tb hS => ?_, fun base _ _ TB => ?_⟩
  · cases m
  · cases m
  · cases m
  · exact ⟨a, ns, rfl, hS, hl, fun _ => rfl⟩
  · exact (c_lawG T cM).at F hfa
end

end K06
open PySem PySem.W PyProof.Rows
set_option maxHeartbeats 0 in
theorem PySem.Challenge.cw_allscreens_k06_mirrors_by_points_holds : PySem.Challenge.rw_allscreens_k06_mirrors_by_points.Holds := by
  w_on; o_law; k_head; (case hw => w_witness2)
  k_fill
  refine Lw.walk_gd (l := PySem.Challenge.rw_allscreens_k06_mirrors_by_points) (n := 63) (k := 18) (x := "_law_script") (CX := fun _ => L2.CX0) rfl (by decide) rfl ⟨rfl, by decide, by decide⟩ (fun w h Y => PySem.W.kIn_of Y) ?F (fun _ _ _ _ _ h => h)
  case F =>
    intro w mg fa h Y KX G hmg
    refine' K06.law_mk ⟨Lw.defAt_mk KX G ?a0 ?l0 ?c0 ?k0, Lw.defAt_mk KX G ?a1 ?l1 ?c1 ?k1, Lw.defAt_mk KX G ?a2 ?l2 ?c2 ?k2, Lw.defAt_mk KX G ?a3 ?l3 ?c3 ?k3, Lw.defAt_mk KX G ?a4 ?l4 ?c4 ?k4, Lw.defAt_mk KX G ?a5 ?l5 ?c5 ?k5, Lw.defAt_mk KX G ?a6 ?l6 ?c6 ?k6, Lw.defAt_mk KX G ?a7 ?l7 ?c7 ?k7, Lw.defAt_mk KX G ?a8 ?l8 ?c8 ?k8, Lw.defAt_mk KX G ?a9 ?l9 ?c9 ?k9, Lw.defAt_mk KX G ?a10 ?l10 ?c10 ?k10, Lw.defAt_mk KX G ?a11 ?l11 ?c11 ?k11, Lw.defAt_mk KX G ?a12 ?l12 ?c12 ?k12, Lw.defAt_mk KX G ?a13 ?l13 ?c13 ?k13, Lw.defAt_mk KX G ?a14 ?l14 ?c14 ?k14, Lw.defAt_mk KX G ?a15 ?l15 ?c15 ?k15, Lw.defAt_mk KX G ?a16 ?l16 ?c16 ?k16, Lw.defAt_mk KX G ?a17 ?l17 ?c17 ?k17, Lw.defAt_mk KX G ?a18 ?l18 ?c18 ?k18, Lw.defAt_mk KX G ?a19 ?l19 ?c19 ?k19, PySem.W.mg_none_of KX G ?z0, PySem.W.mg_none_of KX G ?z1, PySem.W.mg_none_of KX G ?z2, PySem.W.mg_none_of KX G ?z3, PySem.W.mg_none_of KX G ?z4, PySem.W.mg_none_of KX G ?z5, PySem.W.mg_none_of KX G ?z6, PySem.W.mg_none_of KX G ?z7, PySem.W.mg_none_of KX G ?z8, PySem.W.mg_none_of KX G ?z9, PySem.W.mg_none_of KX G ?z10, PySem.W.mg_none_of KX G ?z11, PySem.W.mg_none_of KX G ?z12, PySem.W.mg_none_of KX G ?z13, PySem.W.mg_none_of KX G ?z14, ⟨_, ⟨Lw.ownC_mk KX G ?ow0_0 ?ow0_1 ?ow0_2 ?ow0_3 ?ow0_4 ?ow0_5 ?ow0_6 ?ow0_7 ?ow0_8 ?ow0_9 ?ow0_10 ?ow0_11 ?ow0_12 ?ow0_13 ?ow0_14, Lw.initC_mk ?oi0_0 ?oi0_1 ?oi0_2 ?oi0_3 ?oi0_4 ?oi0_5 ?oi0_6 ?oi0_7 ?oi0_8, ?nb0, ?nl0, Lw.methC_mk ?om0___call___0 ?om0___call___1 ?om0___call___2 ?om0___call___3 ?om0___call___4 ?om0___call___5, Lw.methC_mk ?om0___eq___0 ?om0___eq___1 ?om0___eq___2 ?om0___eq___3 ?om0___eq___4 ?om0___eq___5, Lw.methC_mk ?om0___repr___0 ?om0___repr___1 ?om0___repr___2 ?om0___repr___3 ?om0___repr___4 ?om0___repr___5, Lw.methC_mk ?om0_image_0 ?om0_image_1 ?om0_image_2 ?om0_image_3 ?om0_image_4 ?om0_image_5, Lw.methC_mk ?om0_moved_0 ?om0_moved_1 ?om0_moved_2 ?om0_moved_3 ?om0_moved_4 ?om0_moved_5⟩⟩, Lw.const_mk KX G ?cst0 ?rst0⟩ hmg
    (case a0 => k_is)
    (case l0 => k_is)
    (case c0 => k_is)
    (case k0 => k_is)
    (case a1 => k_is)
    (case l1 => k_is)
    (case c1 => k_is)
    (case k1 => k_is)
    (case a2 => k_is)
    (case l2 => k_is)
    (case c2 => k_is)
    (case k2 => k_is)
    (case a3 => k_is)
    (case l3 => k_is)
    (case c3 => k_is)
    (case k3 => k_is)
    (case a4 => k_is)
    (case l4 => k_is)
    (case c4 => k_is)
    (case k4 => k_is)
    (case a5 => k_is)
    (case l5 => k_is)
    (case c5 => k_is)
    (case k5 => k_is)
    (case a6 => k_is)
    (case l6 => k_is)
    (case c6 => k_is)
    (case k6 => k_is)
    (case a7 => k_is)
    (case l7 => k_is)
    (case c7 => k_is)
    (case k7 => k_is)
    (case a8 => k_is)
    (case l8 => k_is)
    (case c8 => k_is)
    (case k8 => k_is)
    (case a9 => k_is)
    (case l9 => k_is)
    (case c9 => k_is)
    (case k9 => k_is)
    (case a10 => k_is)
    (case l10 => k_is)
    (case c10 => k_is)
    (case k10 => k_is)
    (case a11 => k_is)
    (case l11 => k_is)
    (case c11 => k_is)
    (case k11 => k_is)
    (case a12 => k_is)
    (case l12 => k_is)
    (case c12 => k_is)
    (case k12 => k_is)
    (case a13 => k_is)
    (case l13 => k_is)
    (case c13 => k_is)
    (case k13 => k_is)
    (case a14 => k_is)
    (case l14 => k_is)
    (case c14 => k_is)
    (case k14 => k_is)
    (case a15 => k_is)
    (case l15 => k_is)
    (case c15 => k_is)
    (case k15 => k_is)
    (case a16 => k_is)
    (case l16 => k_is)
    (case c16 => k_is)
    (case k16 => k_is)
    (case a17 => k_is)
    (case l17 => k_is)
    (case c17 => k_is)
    (case k17 => k_is)
    (case a18 => k_is)
    (case l18 => k_is)
    (case c18 => k_is)
    (case k18 => k_is)
    (case a19 => k_is)
    (case l19 => k_is)
    (case c19 => k_is)
    (case k19 => k_is)
    (case z0 => k_is)
    (case z1 => k_is)
    (case z2 => k_is)
    (case z3 => k_is)
    (case z4 => k_is)
    (case z5 => k_is)
    (case z6 => k_is)
    (case z7 => k_is)
    (case z8 => k_is)
    (case z9 => k_is)
    (case z10 => k_is)
    (case z11 => k_is)
    (case z12 => k_is)
    (case z13 => k_is)
    (case z14 => k_is)
    (case ow0_0 => k_is)
    (case ow0_1 => k_is)
    (case ow0_2 => k_is)
    (case ow0_3 => k_is)
    (case ow0_4 => k_is)
    (case ow0_5 => k_is)
    (case ow0_6 => k_is)
    (case ow0_7 => k_is)
    (case ow0_8 => k_is)
    (case ow0_9 => k_is)
    (case ow0_10 => kernel_rfl)
    (case ow0_11 => kernel_rfl)
    (case ow0_12 => k_is)
    (case ow0_13 => k_is)
    (case ow0_14 => k_is)
    (case oi0_0 => k_is)
    (case oi0_1 => k_is)
    (case oi0_2 => k_is)
    (case oi0_3 => k_is)
    (case oi0_4 => k_is)
    (case oi0_5 => k_is)
    (case oi0_6 => k_is)
    (case oi0_7 => k_is)
    (case oi0_8 => k_is)
    (case nb0 => k_is)
    (case nl0 => k_is)
    (case om0___call___0 => k_is)
    (case om0___call___1 => k_is)
    (case om0___call___2 => k_is)
    (case om0___call___3 => k_is)
    (case om0___call___4 => k_is)
    (case om0___call___5 => k_is)
    (case om0___eq___0 => k_is)
    (case om0___eq___1 => k_is)
    (case om0___eq___2 => k_is)
    (case om0___eq___3 => k_is)
    (case om0___eq___4 => k_is)
    (case om0___eq___5 => k_is)
    (case om0___repr___0 => k_is)
    (case om0___repr___1 => k_is)
    (case om0___repr___2 => k_is)
    (case om0___repr___3 => k_is)
    (case om0___repr___4 => k_is)
    (case om0___repr___5 => k_is)
    (case om0_image_0 => k_is)
    (case om0_image_1 => k_is)
    (case om0_image_2 => k_is)
    (case om0_image_3 => k_is)
    (case om0_image_4 => k_is)
    (case om0_image_5 => k_is)
    (case om0_moved_0 => k_is)
    (case om0_moved_1 => k_is)
    (case om0_moved_2 => k_is)
    (case om0_moved_3 => k_is)
    (case om0_moved_4 => k_is)
    (case om0_moved_5 => k_is)
    (case cst0 => k_is)
    (case rst0 => exact ⟨_, rfl⟩)
