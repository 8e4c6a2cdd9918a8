import PyProof.Rows.All
import Wide.All
import OpenK.AllK
import Wide.FinOn
import HandS.ForMost
import HandS.WideBits
import HandS.Wide
import HandS.IsInst
import HandS.Evl
import HandS.Codes
import HandS.Defaults
import HandS.Style
import HandS.RaiseMore
import KE.KDictPairs
import HandS.DictTup
import HandS.SortRule
import HandS.SortInts
import HandS.SetBool
import HandS.Strs
import HandS.TupAny
import PyProof.P3Eq
import HandS.ExcInit
import HandS.TryMany
import HandS.Lambda
import HandS.EndTab
import KE.KNestM
import HandS.ExcIs
import HandS.ExcField
import HandS.WordsExc
import KE.KExcIs
import KE.KTryMore
import HandS.Star
import HandS.Conv
import HandS.Deep
import HandS.Small
import HandS.DictComp
import HandS.Zip
import HandS.Set
import HandS.SetFor
import KE.DataMinMax
import KE.SortData
import KE.KDictCopyH
import KE.KIntText
import PyProof.Rows.ReprOcc
import PyProof.Rows.StrIntSpec
import PySem.Challenge.RW_allscreens_k45_whole_forms_written_other
set_option Elab.async false
set_option linter.all false
set_option maxRecDepth 100000
set_option maxHeartbeats 1000000
/-! The base of all proofs here: pools of draws as opaque objects, calls, values told in a heap. -/
namespace Lw
open PySem PySem.Spec PyProof.Rows L2 Evl

/-! ### a pool of draws: a list of three ints, whatever they are -/
def poolP (p : Addr) : Heap → Prop := fun h => ∃ (a b c : Int) (its : List Value) (n : Nat), Vals [.int a, .int b, .int c] its ∧ h.get? p = some { cls := .type "list", data := .seq its.toArray n }
def Pool (H : Hp) (p : Addr) : Prop := H p = some (.ext (poolP p))
theorem three_line : (3 : Nat) ≤ sizeLine := by decide

section
variable {P : Program} {w : World} {H : Hp} {h : Heap} {p : Addr}
theorem pool_open (ok : HOk P w H h) (hp : Pool H p) : ∃ a b c : Int, HOk P w (upd H p (.lst [.int a, .int b, .int c])) h := by
  obtain ⟨⟨a, b, c, its, n, r, e⟩, _, _⟩ := ok p _ hp
  refine ⟨a, b, c, fun x o hx => ?_⟩
  by_cases hb : x = p
  · subst hb
    rw [upd_same] at hx
    cases hx
    exact ⟨three_line, its, n, r, e⟩
  · rw [upd_ne hb] at hx
    refine (ok x o hx).stay (fun _ _ _ q => q) (fun y q => ?_) (fun y xs q => ?_)
    · rw [upd_ne (ne_of q hp (by intro z; cases z))]
      exact q
    · rw [upd_ne (ne_of q hp (by intro z; cases z))]
      exact q
theorem pool_close {a b c : Int} (ok : HOk P w H h) (hp : H p = some (.lst [.int a, .int b, .int c])) : HOk P w (upd H p (.ext (poolP p))) h := by
  obtain ⟨_, its, n, r, e⟩ := ok p _ hp
  refine fun x o hx => ?_
  by_cases hb : x = p
  · subst hb
    rw [upd_same] at hx
    cases hx
    exact ⟨⟨a, b, c, its, n, r, e⟩, ⟨_, e⟩, fun h1 h2 ⟨a, b, c, its, n, r, e⟩ k => ⟨a, b, c, its, n, r, k _ e⟩⟩
  · rw [upd_ne hb] at hx
    refine (ok x o hx).stay (fun _ _ _ q => q) (fun y q => ?_) (fun y xs q => ?_)
    · rw [upd_ne (ne_of q hp (by intro z; cases z))]
      exact q
    · rw [upd_ne (ne_of q hp (by intro z; cases z))]
      exact q
end

section
variable {P : Program} {w : World} {K : PySem.W.Frag} {mg : Str → Option Value} {base : Heap} {k : Nat} {f : Addr} {fd : FuncData} {ps : List Str} {sp sp1 : Sp}
/-- at the end: a new list of three ints is handed back as a pool -/
theorem fn_newpool (F : FnOk P w K mg base CX0 k f fd ps sp1)
    (h : ∀ vs H Q E, sp vs H Q E → sp1 vs H (fun v H' => ∃ p a b c, v = .ref p ∧ H p = none ∧ H' p = some (.lst [.int a, .int b, .int c]) ∧ Q v (upd H' p (.ext (poolP p)))) E) :
    FnOk P w K mg base CX0 k f fd ps sp := by
  refine ⟨fun vs H Q E q => F.len _ _ _ _ (h _ _ _ _ q), fun A outer s H args us vs Q E hr he hb hv hs => ?_⟩
  refine codeAny_mono (F.run A outer s H args us vs _ E hr he hb hv (h _ _ _ _ hs)) fun r s' q => ?_
  cases r with
  | error e => exact q
  | ok fl =>
    cases fl with
    | next => exact q
    | brk => exact q
    | cont => exact q
    | ret u =>
      obtain ⟨v, H', os, bare, un, hok, r, p, a, b, c, rfl, hn, hp, q⟩ := q
      refine ⟨_, _, os, bare, ?_, pool_close hok hp, r, q⟩
      refine ⟨un.keep, un.slot, fun x o e n hx => ?_, un.there, fun x xs e => ?_, fun x o u e => ?_, fun x t e => ?_⟩
      · by_cases hb : x = p
        · subst hb
          have := un.free x o e n hx
          rw [hp] at this
          cases this
        · rw [upd_ne hb]
          exact un.free x o e n hx
      · rw [upd_ne (ne_of (un.tups x xs e) hp (by intro z; cases z))]
        exact un.tups x xs e
      · rw [upd_ne (ne_of (un.frzs x o u e) hp (by intro z; cases z))]
        exact un.frzs x o u e
      · obtain ⟨m, e2⟩ := un.tbls x t e
        rw [upd_ne (ne_of e2 hp (by intro z; cases z))]
        exact ⟨m, e2⟩
/-- a def that works at a pool's three ints, told as one that leaves the pool a pool -/
theorem fn_pool (F : FnOk P w K mg base CX0 k f fd ps sp1)
    (h : ∀ vs H Q E, sp vs H Q E → vs.length = ps.length ∧ ∃ p, Pool H p ∧ ∀ a b c : Int, sp1 vs (upd H p (.lst [.int a, .int b, .int c])) (fun v H' => ∃ a b c : Int, H' p = some (.lst [.int a, .int b, .int c]) ∧ Q v (upd H' p (.ext (poolP p)))) E) :
    FnOk P w K mg base CX0 k f fd ps sp := by
  refine ⟨fun vs H Q E q => (h _ _ _ _ q).1, fun A outer s H args us vs Q E hr he hb hv hs => ?_⟩
  obtain ⟨_, p, hp, hs⟩ := h _ _ _ _ hs
  obtain ⟨a, b, c, ok⟩ := pool_open he.hok hp
  have e1 : Env0 P w K mg base A outer s (upd H p (.lst [.int a, .int b, .int c])) :=
    ⟨he.frames, he.mod, fun x o e => ⟨(he.bs x o e).1, by rw [upd_ne (ne_of_none hp (he.bs x o e).2).symm]; exact (he.bs x o e).2⟩, he.bsz, he.funs,
      fun x hx => by rw [upd_ne (ne_of_none hp (he.frf x hx)).symm]; exact he.frf x hx, ok, he.bare⟩
  refine codeAny_mono (F.run A outer s _ args us vs _ E hr e1 hb hv (hs a b c)) fun r s' q => ?_
  cases r with
  | error e => exact q
  | ok fl =>
    cases fl with
    | next => exact q
    | brk => exact q
    | cont => exact q
    | ret u =>
      obtain ⟨v, H', os, bare, un, hok, r, a', b', c', hq, q⟩ := q
      refine ⟨_, _, os, bare, ?_, pool_close hok hq, r, q⟩
      have nn : ∀ {x}, H x = none → (upd H p (.lst [.int a, .int b, .int c])) x = none := fun {x} n => by rw [upd_ne (ne_of_none hp n).symm]; exact n
      refine ⟨fun x o e n => un.keep x o e (nn n), fun x o e n => un.slot x o e (nn n), fun x o e n hx => ?_, un.there, fun x xs e => ?_, fun x o u e => ?_, fun x t e => ?_⟩
      · rw [upd_ne (ne_of_none hp n).symm]
        exact un.free x o e (nn n) hx
      · have hb : x ≠ p := ne_of e hp (by intro z; cases z)
        rw [upd_ne hb]
        exact un.tups x xs (by rw [upd_ne hb]; exact e)
      · have hb : x ≠ p := ne_of e hp (by intro z; cases z)
        rw [upd_ne hb]
        exact un.frzs x o u (by rw [upd_ne hb]; exact e)
      · have hb : x ≠ p := ne_of e hp (by intro z; cases z)
        obtain ⟨m, e2⟩ := un.tbls x t (by rw [upd_ne hb]; exact e)
        exact ⟨m, by rw [upd_ne hb]; exact e2⟩
end

/-! ### a def of the text, its name; a def that may be called -/
structure DefAt (K : PySem.W.Frag) (mg : Str → Option Value) (x : Str) (st : Stmt) : Prop where
  ex : ∃ (f : Addr) (fd : FuncData), Fun K x x st f fd ∧ mg x = some (.ref f)
/-- all parameters are written, by position -/
def Bnd (x : Str) (st : Stmt) (ps : List Str) : Prop := ∀ (kV doc pm : Value) (an : Option Addr) (cdv ct : Value) (us : List Value), us.length = ps.length →
  bindArgs (PySem.W.fnOf x x (defArgs st) (defBody st) (defScope st) .none kV doc pm an cdv ct) ⟨us, []⟩ = pure (ps.zip us)
/-- n by position, the others by the names ks -/
def BndK (x : Str) (st : Stmt) (ps : List Str) (n : Nat) (ks : List Str) (g : {α : Type} → List α → List α → List α) : Prop :=
  ∀ (kV doc pm : Value) (an : Option Addr) (cdv ct : Value) (us ws : List Value), us.length = n → ws.length = ks.length →
  bindArgs (PySem.W.fnOf x x (defArgs st) (defBody st) (defScope st) .none kV doc pm an cdv ct) ⟨us, ks.zip ws⟩ = pure (ps.zip (g us ws))
structure Cl (P : Program) (w : World) (K : PySem.W.Frag) (mg : Str → Option Value) (base : Heap) (CX : CXT) (k : Nat) (x : Str) (st : Stmt) (ps : List Str) (sp : Sp) : Prop where
  ex : ∃ (f : Addr) (fd : FuncData), Fun K x x st f fd ∧ FnOk P w K mg base CX k f fd ps sp ∧ mg x = some (.ref f)
section
variable {P : Program} {w : World} {K : PySem.W.Frag} {mg : Str → Option Value} {base : Heap} {k : Nat} {x : Str} {st : Stmt} {ps N : List Str} {sp sp1 : Sp}
theorem cl_of (D : DefAt K mg x st) (S : FnScope N ps (defScope st)) (len : ∀ vs H Q E, sp vs H Q E → vs.length = ps.length)
    (hbody : ∀ (f : Addr) (cdv : Value) (A : Around) (outer : List Env) (s : Shared) (H : Hp) (vs : List V) (Q : VK) (E : XK), Room k (A.deeper (envOfC x (defScope st) s.heap.objs.size f cdv)) → sp vs H Q E →
      ∃ t, PSs (cxOf CX0 P w K mg base N x (defScope st) f cdv A outer s H E).nox (defBody st) t ∧ t { nx := fun _ H' => Q .non H', rt := Q } (start N vs) H) : Cl P w K mg base CX0 (k + 1) x st ps sp := by
  obtain ⟨f, fd, F, m⟩ := D.ex
  exact ⟨f, fd, F, F.ok S len (hbody f), m⟩
theorem Cl.pool (c : Cl P w K mg base CX0 k x st ps sp1)
    (h : ∀ vs H Q E, sp vs H Q E → vs.length = ps.length ∧ ∃ p, Pool H p ∧ ∀ a b c : Int, sp1 vs (upd H p (.lst [.int a, .int b, .int c])) (fun v H' => ∃ a b c : Int, H' p = some (.lst [.int a, .int b, .int c]) ∧ Q v (upd H' p (.ext (poolP p)))) E) :
    Cl P w K mg base CX0 k x st ps sp := by
  obtain ⟨f, fd, F, o, m⟩ := c.ex
  exact ⟨f, fd, F, fn_pool o h, m⟩
theorem Cl.newpool (c : Cl P w K mg base CX0 k x st ps sp1)
    (h : ∀ vs H Q E, sp vs H Q E → sp1 vs H (fun v H' => ∃ p a b c, v = .ref p ∧ H p = none ∧ H' p = some (.lst [.int a, .int b, .int c]) ∧ Q v (upd H' p (.ext (poolP p)))) E) :
    Cl P w K mg base CX0 k x st ps sp := by
  obtain ⟨f, fd, F, o, m⟩ := c.ex
  exact ⟨f, fd, F, fn_newpool o h, m⟩
theorem Cl.imp {CX : CXT} (c : Cl P w K mg base CX k x st ps sp) (h : ∀ vs H Q E, sp1 vs H Q E → sp vs H Q E) : Cl P w K mg base CX k x st ps sp1 := by
  obtain ⟨f, fd, F, o, m⟩ := c.ex
  exact ⟨f, fd, F, o.imp h, m⟩
end
section
variable {X : Cx} {CX : CXT} {k j n : Nat} {x : Str} {st : Stmt} {sp : Sp} {ps ks : List Str} {p pos : Pos} {e : Expr} {es : List Expr} {kws : List Keyword} {t tk : TA} {E : XK}
/-- f(a, ..): all parameters by position -/
theorem pe_cl (c : Cl X.prog X.w X.K X.mg X.base CX k x st ps sp) (b : Bnd x st ps) (hr : Room j X.A) (hk : k ≤ j) (hg : Gl X x) (hx : Passes CX X E) (ha : PA X (e :: es) t)
    (hdb : (x == ("__debug__" : Str)) = false := by decide) (he : starEach (e :: es) X.env = (false, eval e X.env) :: starEach es X.env := by rfl) (hpl : (backTo pos (starEach es X.env)).any (·.1) = false := by rfl) :
    PE X (.Call (.Name x p) (e :: es) [] pos) (tCall sp [] E t) := by
  obtain ⟨f, fd, F, o, m⟩ := c.ex
  exact pe_call o (hr.mono hk) hg m F.kp (F.binds b) .nil hx ha hdb he hpl
theorem kbn_of {K : PySem.W.Frag} {f : Addr} {fd : FuncData} {g : {α : Type} → List α → List α → List α} (F : Fun K x x st f fd) (b : BndK x st ps n ks g)
    (hrel : ∀ {vs zs : List V} {us ws : List Value}, Vals vs us → Vals zs ws → Vals (g vs zs) (g us ws)) : KBn K fd ps n ks (fun us ws => g us ws) (fun vs zs => g vs zs) := by
  obtain ⟨oc, od, kV, doc, pm, an, cdv, ct, osl, rfl, lk, hcd⟩ := F.ex
  exact ⟨fun s us ws _ h1 h2 => .of_eq (b kV doc pm an cdv ct us ws h1 h2), hrel⟩
/-- f(a, .., k = v, ..): all parameters written -/
theorem pe_clk {g : {α : Type} → List α → List α → List α} (c : Cl X.prog X.w X.K X.mg X.base CX k x st ps sp) (b : BndK x st ps n ks g)
    (hrel : ∀ {vs zs : List V} {us ws : List Value}, Vals vs us → Vals zs ws → Vals (g vs zs) (g us ws))
    (hr : Room j X.A) (hk : k ≤ j) (hg : Gl X x) (hx : Passes CX X E) (ha : PA X (e :: es) t) (hkw : PK X kws tk) (hall : (backToKw pos (keywordEach kws X.env)).all (·.1.isSome) = true := by rfl)
    (hks : (backToKw pos (keywordEach kws X.env)).filterMap (·.1) = ks := by rfl) (hdb : (x == ("__debug__" : Str)) = false := by decide) (he : starEach (e :: es) X.env = (false, eval e X.env) :: starEach es X.env := by rfl)
    (hpl : ((backTo pos (starEach (e :: es) X.env)).any (·.1) || (backToKw pos (keywordEach kws X.env)).any (·.1.isNone)) = false := by rfl) :
    PE X (.Call (.Name x p) (e :: es) kws pos) (tCallN n ks.length sp g E t tk) := by
  obtain ⟨f, fd, F, o, m⟩ := c.ex
  exact pe_callN o (hr.mono hk) hg m F.kp (kbn_of F b hrel) hx ha hkw hall hks hdb he hpl
/-- f(k = v, ..): all by name -/
theorem pe_clk0 {g : {α : Type} → List α → List α → List α} (c : Cl X.prog X.w X.K X.mg X.base CX k x st ps sp) (b : BndK x st ps 0 ks g)
    (hrel : ∀ {vs zs : List V} {us ws : List Value}, Vals vs us → Vals zs ws → Vals (g vs zs) (g us ws))
    (hr : Room j X.A) (hk : k ≤ j) (hg : Gl X x) (hx : Passes CX X E) (hkw : PK X kws tk) (hall : (backToKw pos (keywordEach kws X.env)).all (·.1.isSome) = true := by rfl)
    (hks : (backToKw pos (keywordEach kws X.env)).filterMap (·.1) = ks := by rfl) (hdb : (x == ("__debug__" : Str)) = false := by decide)
    (hpl : ((backTo pos (starEach [] X.env)).any (·.1) || (backToKw pos (keywordEach kws X.env)).any (·.1.isNone)) = false := by rfl) :
    PE X (.Call (.Name x p) [] kws pos) (tCallN 0 ks.length sp g E tNil tk) := by
  obtain ⟨f, fd, F, o, m⟩ := c.ex
  refine ⟨fun pins s σ H Q I h => ?_⟩
  refine wpAny_Call_Name_kw (ld_glob I hg m ?_ hdb)
  refine PySem.W.callWith_KW0 (h₀ := X.base) I.ok.mod.kin F.kp hall ?_ hpl
  refine thn (hkw.run pos pins s σ H _ I h) fun ws s2 ⟨zs, H2, I2, rz, l1, l2, q2⟩ => ⟨I2.kIn, ?_⟩
  rw [hks]
  exact run_fnN o (hr.mono hk) (kbn_of F b hrel) hx I2 .nil rz l1 l2 q2
/-- repr of a truth -/
theorem call_repr_bl : CallR X (.builtin "repr") (fun xs H Q => ∃ b, xs = [.bl b] ∧ Q (.str (if b then "True" else "False")) H) := by
  intro pins s σ H xs us Q I r h
  obtain ⟨b, rfl, q⟩ := h
  obtain ⟨u, rfl, rfl⟩ := vals1 r
  exact PySem.P.repr_of_bool ⟨.str _, H, I.tok _, ⟨_, rfl⟩, q⟩
end

section
variable {P : Program} {w : World} {K : PySem.W.Frag} {mg : Str → Option Value} {base : Heap} {k : Nat} {x : Str} {st : Stmt} {ps : List Str} {sp : Sp} {CX : CXT}
theorem defAt_mk {h : Heap} {f : Addr} {oc : Value} {od an : Option Addr} {osl : Array (Option Value)} {kV doc pm cdv ct : Value} (X : K.In h) (G : h.Ns mainGlobals mg) (a : PySem.W.nsIn K mainGlobals x = some (some (.ref f)))
    (l : K.lookup f = some ⟨oc, od, .func (PySem.W.fnOf x x (defArgs st) (defBody st) (defScope st) .none kV doc pm an cdv ct), osl⟩) (c : PySem.W.codeIn K cdv x = true) (kp : PySem.W.keepIn K (.ref f) = true) : DefAt K mg x st :=
  ⟨f, _, fun_mk l c kp, PySem.W.mg_of X G a⟩
/-- a def's object is one -/
theorem Cl.at {f : Addr} {fd : FuncData} (c : Cl P w K mg base CX k x st ps sp) (F : Fun K x x st f fd) (m : mg x = some (.ref f)) : FnOk P w K mg base CX k f fd ps sp := by
  obtain ⟨f', fd', F', o, m'⟩ := c.ex
  rw [m] at m'
  cases m'
  obtain ⟨oc, od, kV, doc, pm, an, cdv, ct, osl, rfl, lk, _⟩ := F.ex
  obtain ⟨oc', od', kV', doc', pm', an', cdv', ct', osl', rfl, lk', _⟩ := F'.ex
  have e := Option.some.inj (lk.symm.trans lk')
  injection e with _ _ e _
  injection e with e
  rw [e]
  exact o
end

/-! ### the law's draws -/
/-- what is handed back is told by P, all that stood stands -/
def Gets (Pv : V → Hp → Prop) (H : Hp) (Q : VK) : Prop := ∀ v H', Ex H H' → Pv v H' → Q v H'
def spCell (K : PySem.W.Frag) : Sp := fun vs H Q _ => ∃ (a : Addr) (ns : List Int) (i : Int), vs = [.ref a, .int i] ∧ SqL K H a (ns.map V.int) ∧ ns.length ≤ 63 ∧ 0 ≤ i ∧ i ≤ 63 ∧ ∀ (v : Int) H', Ex H H' → Q (.int v) H'
def spPool : Sp := fun vs H Q _ => ∃ i : Int, vs = [.int i] ∧ ∀ p H', H p = none → Ex H H' → Pool H' p → Q (.ref p) H'
def spDraw : Sp := fun vs H Q _ => ∃ (p : Addr) (m : Int), vs = [.ref p, .int m] ∧ Pool H p ∧ 0 < m ∧ m < 2 ^ 160 ∧ ∀ (v : Int) H', Ex H H' → 0 ≤ v → v < m → Q (.int v) H'
def spPool1 : Sp := fun vs H Q _ => ∃ i : Int, vs = [.int i] ∧ ∀ p H' (a b c : Int), H p = none → H' p = some (.lst [.int a, .int b, .int c]) → Ex H H' → Q (.ref p) H'
def spDraw1 : Sp := fun vs H Q _ => ∃ (p : Addr) (m a b c : Int), vs = [.ref p, .int m] ∧ H p = some (.lst [.int a, .int b, .int c]) ∧ 0 < m ∧ m < 2 ^ 160 ∧
  ∀ (v : Int) H' (a b c : Int), (∀ x o, x ≠ p → H x = some o → H' x = some o) → H' p = some (.lst [.int a, .int b, .int c]) → 0 ≤ v → v < m → Q (.int v) H'
theorem spPool_of : ∀ vs H Q E, spPool vs H Q E → spPool1 vs H (fun v H' => ∃ p a b c, v = .ref p ∧ H p = none ∧ H' p = some (.lst [.int a, .int b, .int c]) ∧ Q v (upd H' p (.ext (poolP p)))) E := by
  rintro vs H Q E ⟨i, rfl, q⟩
  refine ⟨i, rfl, fun p H' a b c hn hp e => ⟨p, a, b, c, rfl, hn, hp, q p _ hn (fun x o hx => ?_) upd_same⟩⟩
  rw [upd_ne (ne_of_none hx hn)]
  exact e x o hx
theorem spDraw_of : ∀ vs H Q E, spDraw vs H Q E → vs.length = 2 ∧ ∃ p, Pool H p ∧ ∀ a b c : Int, spDraw1 vs (upd H p (.lst [.int a, .int b, .int c])) (fun v H' => ∃ a b c : Int, H' p = some (.lst [.int a, .int b, .int c]) ∧ Q v (upd H' p (.ext (poolP p)))) E := by
  rintro vs H Q E ⟨p, m, rfl, hp, h0, h1, q⟩
  refine ⟨rfl, p, hp, fun a b c => ⟨p, m, a, b, c, rfl, upd_same, h0, h1, fun v H' a' b' c' k hq v0 v1 => ⟨a', b', c', hq, q v _ (fun x o hx => ?_) v0 v1⟩⟩⟩
  by_cases hb : x = p
  · subst hb
    rw [hp] at hx
    cases hx
    exact upd_same
  · rw [upd_ne hb]
    exact k x o hb (by rw [upd_ne hb]; exact hx)
theorem log2_lt {m : Int} (h0 : 0 < m) (h1 : m < 2 ^ 160) : m.natAbs.log2 < 9000 := by
  have e : m.natAbs < 2 ^ 160 := by omega
  have := (Nat.log2_lt (by omega : m.natAbs ≠ 0)).mpr e
  omega
theorem cdivp {i m : Int} (h0 : 0 < m) (h1 : m < 2 ^ 160) : CDivP i m := ⟨h0, PyProof.noPylong_of_log2 (log2_lt h0 h1)⟩
theorem atI_0 {a b c : V} : atI [a, b, c] 0 = some a := rfl
theorem atI_1 {a b c : V} : atI [a, b, c] 1 = some b := rfl
theorem atI_2 {a b c : V} : atI [a, b, c] 2 = some c := rfl
theorem ex_rdL {K : PySem.W.Frag} {H H' : Hp} {a : Addr} {xs : List V} (e : Ex H H') (h : SqL K H a xs) : SqL K H' a xs := ex_l e h
theorem line_ge : (100000 : Nat) ≤ sizeLine := by decide
/-! ### tests with two ways -/
theorem ifD {p A B : Prop} [Decidable p] (h1 : p → A) (h2 : ¬ p → B) : if decide p = true then A else B := by
  by_cases h : p
  · rw [if_pos (decide_eq_true h)]; exact h1 h
  · rw [if_neg (by simpa using h)]; exact h2 h
theorem ifN {p A B : Prop} [Decidable p] (h1 : ¬ p → A) (h2 : p → B) : if (!decide p) = true then A else B := by
  by_cases h : p
  · rw [if_neg (by simpa using h)]; exact h2 h
  · rw [if_pos (by simpa using h)]; exact h1 h
theorem ifB {b : Bool} {A B : Prop} (h1 : b = true → A) (h2 : b = false → B) : if b = true then A else B := by
  cases b with
  | true => exact h1 rfl
  | false => exact h2 rfl
theorem upd_new {H : Hp} {t a : Addr} {o u : HO} (ht : H t = none) (ha : H a = some o) : upd H t u a = some o := by
  rw [upd_ne (ne_of_none ha ht)]
  exact ha
theorem ex_at {H H' : Hp} {a : Addr} {o : HO} (e : Ex H H') (ha : H a = some o) : H' a = some o := e a o ha
/-- all but p stand -/
def But (p : Addr) (H H' : Hp) : Prop := ∀ x o, x ≠ p → H x = some o → H' x = some o
theorem But.refl {p : Addr} {H : Hp} : But p H H := fun _ _ _ h => h
theorem But.new {p t : Addr} {H H' : Hp} {o : HO} (b : But p H H') (ht : H' t = none) : But p H (upd H' t o) := fun x u n h => upd_new ht (b x u n h)
theorem But.mut {p : Addr} {H H' : Hp} {o : HO} (b : But p H H') : But p H (upd H' p o) := fun x u n h => by
  rw [upd_ne n]
  exact b x u n h
theorem cut_int {ns : List Int} {lo hi : Option Int} {i : Nat} {x : V} (h : (cutV (ns.map V.int) lo hi)[i]? = some x) : ∃ n, x = .int n := by
  have hm := List.mem_of_getElem? h
  have hm2 : x ∈ ns.map V.int := by
    unfold cutV at hm
    exact List.mem_of_mem_drop (List.mem_of_mem_take hm)
  obtain ⟨n, _, e⟩ := List.mem_map.mp hm2
  exact ⟨n, e.symm⟩

/-! ### kinds of values -/
inductive Kd (H : Hp) : V → String → Prop
  | non : Kd H .non "NoneType"
  | bl (b : Bool) : Kd H (.bl b) "bool"
  | int (i : Int) : Kd H (.int i) "int"
  | str (x : Str) : Kd H (.str x) "str"
  | lst {a : Addr} {xs : List V} (h : H a = some (.lst xs)) : Kd H (.ref a) "list"
  | tup {a : Addr} {xs : List V} (h : H a = some (.tup xs)) : Kd H (.ref a) "tuple"
  | fz {a : Addr} {o : Obj} {xs : List V} (h : H a = some (.frz o (.tup xs))) : Kd H (.ref a) "tuple"
  | dK {a : Addr} {kvs : List (Key × V)} (h : H a = some (.dK kvs)) : Kd H (.ref a) "dict"
def kinds : List String := ["NoneType", "bool", "int", "str", "list", "tuple", "dict"]
def isK (n c : String) : Bool := n == c || (n == "bool" && c == "int")
theorem Kd.mem {H : Hp} {v : V} {n : String} (k : Kd H v n) : n ∈ kinds := by cases k <;> decide
theorem Kd.ty {K : PySem.W.Frag} {H : Hp} {v : V} {n : String} (k : Kd H v n) : TyX K H v (.type n) := by
  cases k with
  | non => exact .base .non
  | bl b => exact .base (.bl b)
  | int i => exact .base (.int i)
  | str x => exact .base (.str x)
  | lst h => exact .base (.lst h)
  | tup h => exact .base (.tup h)
  | fz h => exact .fTuple h
  | dK h => exact .base (.dK h)
theorem kit_all : ∀ n ∈ kinds, ∀ c ∈ ["int", "bool", "tuple", "str", "list", "dict"], kitB n c = some (isK n c) := by decide +kernel
theorem kit_k {K : PySem.W.Frag} {H : Hp} {v : V} {n c : String} (k : Kd H v n) (hc : c ∈ ["int", "bool", "tuple", "str", "list", "dict"]) : PySem.W.kitOne K (.type n) (.type c) = some (isK n c) := kit_ty (kit_all n k.mem c hc)
theorem Kd.ex {H H' : Hp} {v : V} {n : String} (k : Kd H v n) (e : Ex H H') : Kd H' v n := by
  cases k with
  | non => exact .non
  | bl b => exact .bl b
  | int i => exact .int i
  | str x => exact .str x
  | lst h => exact .lst (e _ _ h)
  | tup h => exact .tup (e _ _ h)
  | fz h => exact .fz (e _ _ h)
  | dK h => exact .dK (e _ _ h)
/-- an integer (no truth) within bounds -/
def inB (lo hi : Int) : V → Bool
  | .int i => decide (lo ≤ i) && decide (i ≤ hi)
  | _ => false
def spInteger : Sp := fun vs H Q _ => ∃ v n, vs = [v] ∧ Kd H v n ∧ Q (.bl (n == "int")) H
def spBetween : Sp := fun vs H Q _ => ∃ v lo hi n, vs = [v, .int lo, .int hi] ∧ Kd H v n ∧ Q (.bl (inB lo hi v)) H
def spNumber : Sp := fun vs H Q _ => ∃ v n, vs = [v] ∧ Kd H v n ∧ Q (.bl (inB (-1000000000000) 1000000000000 v)) H
def rectL : List V → Bool
  | [a, b, c, d] => inB (-1000000000000) 1000000000000 a && inB (-1000000000000) 1000000000000 b && inB 0 1000000000000 c && inB 0 1000000000000 d
  | _ => false
/-- a value that is looked at as a rectangle: no tuple, or a tuple of values of known kinds -/
inductive Th (H : Hp) : V → Bool → Prop
  | other {v : V} {n : String} (k : Kd H v n) (h : n ≠ "tuple") : Th H v false
  | tup {a : Addr} {xs : List V} (h : H a = some (.tup xs)) (ks : ∀ x ∈ xs, ∃ n, Kd H x n) : Th H (.ref a) (rectL xs)
def spRect : Sp := fun vs H Q _ => ∃ v b, vs = [v] ∧ Th H v b ∧ Q (.bl b) H
theorem int_yes {H : Hp} {v : V} {n : String} (k : Kd H v n) (h : isK n "int" = true) : (n == "int") = !isK n "bool" := by
  have hm := k.mem
  exact (by decide : ∀ n ∈ kinds, isK n "int" = true → (n == "int") = !isK n "bool") n hm h
theorem int_no {n : String} (h : isK n "int" = false) : (n == "int") = false := by
  unfold isK at h
  cases e : n == "int" with
  | true => rw [e] at h; cases h
  | false => rfl
theorem Kd.of_int {H : Hp} {v : V} {n : String} (k : Kd H v n) (h : (n == "int") = true) : ∃ i, v = .int i := by
  cases k <;> first | exact ⟨_, rfl⟩ | exact absurd h (by decide)
theorem inB_no {H : Hp} {lo hi : Int} {v : V} {n : String} (k : Kd H v n) (h : (n == "int") = false) : inB lo hi v = false := by
  cases k <;> first | rfl | exact absurd h (by decide)
theorem isK_ne {n c : String} (h : n ≠ c) (hb : c ≠ "int") : isK n c = false := by
  unfold isK
  rw [beq_eq_false_iff_ne.mpr h, beq_eq_false_iff_ne.mpr hb]
  cases n == "bool" <;> rfl
theorem rectL_len {xs : List V} (h : xs.length ≠ 4) : rectL xs = false := by
  unfold rectL
  split
  · exact absurd rfl h
  · rfl
theorem four {xs : List V} (h : xs.length = 4) : ∃ a b c d, xs = [a, b, c, d] := match xs, h with
  | [a, b, c, d], _ => ⟨a, b, c, d, rfl⟩
theorem lenN {n m : Nat} : V.int (n : Int) = V.int (m : Int) ↔ n = m := by
  constructor
  · intro h
    injection h with h
    exact Int.ofNat_inj.mp h
  · intro h; rw [h]
theorem ifNt {b : Bool} {A B : Prop} (h1 : b = false → A) (h2 : b = true → B) : if (!b) = true then A else B := by
  cases b with
  | true => exact h2 rfl
  | false => exact h1 rfl

theorem sqlK {K K' : PySem.W.Frag} {H : Hp} {a : Addr} {xs : List V} (h : SqL K H a xs) (e : K' = K) : SqL K' H a xs := e ▸ h
theorem sqtK {K K' : PySem.W.Frag} {H : Hp} {a : Addr} {xs : List V} (h : SqT K H a xs) (e : K' = K) : SqT K' H a xs := e ▸ h
/-! ### list comprehensions, told item by item -/
/-- all but lists stand -/
def ExT (H H' : Hp) : Prop := ∀ a o, (∀ xs, o ≠ HO.lst xs) → H a = some o → H' a = some o
theorem Ex.exT {H H' : Hp} (e : Ex H H') : ExT H H' := fun a o _ h => e a o h
theorem ExT.wr {H : Hp} {D : Addr} {xs : List V} {o : HO} (h : H D = some (.lst xs)) : ExT H (upd H D o) := fun a u n ha => by
  rw [upd_ne (ne_of ha h (n xs))]
  exact ha
theorem ExT.trans {H H1 H2 : Hp} (a : ExT H H1) (b : ExT H1 H2) : ExT H H2 := fun x o n h => b x o n (a x o n h)
/-- what a turn makes: some item or none -/
abbrev PeT := Nat → Option V → Hp → Prop
def Mono (Pe : PeT) : Prop := ∀ i o H H', ExT H H' → Pe i o H → Pe i o H'
structure LcI (H1 : Hp) (D : Addr) (Pe : PeT) (i : Nat) (H : Hp) : Prop where
  new : H1 D = none
  ex : Ex H1 H
  its : ∃ os : List (Option V), os.length = i ∧ H D = some (.lst (os.filterMap id)) ∧ ∀ m o, os[m]? = some o → Pe m o H
section
variable {H1 H H4 : Hp} {D : Addr} {Pe : PeT} {i n : Nat} {y : V}
theorem LcI.start (h : H1 D = none) : LcI H1 D Pe 0 (upd H1 D (.lst [])) := ⟨h, Ex.new h, [], rfl, upd_same, fun m o e => by simp at e⟩
theorem LcI.more (I : LcI H1 D Pe i H) (mono : Mono Pe) (hi : i < 50000) (e : Ex H H4) (p : Pe i (some y) H4) :
    ∃ acc, H4 D = some (.lst acc) ∧ acc.length < sizeLine ∧ LcI H1 D Pe (i + 1) (upd H4 D (.lst (acc ++ [y]))) := by
  obtain ⟨hn, e1, os, hl, hD, hp⟩ := I
  have hD4 := e _ _ hD
  have hT : ExT H4 (upd H4 D (.lst (os.filterMap id ++ [y]))) := ExT.wr hD4
  refine ⟨_, hD4, ?_, hn, Ex.mut (e1.trans e) hn, os ++ [some y], ?_, ?_, fun m o hm => ?_⟩
  · have := List.length_filterMap_le id os
    exact Nat.lt_of_lt_of_le (by omega) line_ge
  · rw [List.length_append, hl]; rfl
  · rw [upd_same, List.filterMap_append]; rfl
  · by_cases hb : m < os.length
    · rw [List.getElem?_append_left hb] at hm
      exact mono _ _ _ _ ((Ex.exT e).trans hT) (hp m o hm)
    · rw [List.getElem?_append_right (Nat.le_of_not_lt hb)] at hm
      have h0 : m - os.length = 0 := by
        cases hz : m - os.length with
        | zero => rfl
        | succ k => rw [hz] at hm; simp at hm
      rw [h0] at hm
      have e2 : o = some y := (Option.some.inj hm).symm
      have e3 : m = i := by omega
      subst e2 e3
      exact mono _ _ _ _ hT p
theorem LcI.less (I : LcI H1 D Pe i H) (mono : Mono Pe) (e : Ex H H4) (p : Pe i none H4) : LcI H1 D Pe (i + 1) H4 := by
  obtain ⟨hn, e1, os, hl, hD, hp⟩ := I
  refine ⟨hn, e1.trans e, os ++ [none], ?_, ?_, fun m o hm => ?_⟩
  · rw [List.length_append, hl]; rfl
  · rw [List.filterMap_append, e _ _ hD]
    show _ = some (HO.lst (os.filterMap id ++ []))
    rw [List.append_nil]
  · by_cases hb : m < os.length
    · rw [List.getElem?_append_left hb] at hm
      exact mono _ _ _ _ (Ex.exT e) (hp m o hm)
    · rw [List.getElem?_append_right (Nat.le_of_not_lt hb)] at hm
      have h0 : m - os.length = 0 := by
        cases hz : m - os.length with
        | zero => rfl
        | succ k => rw [hz] at hm; simp at hm
      rw [h0] at hm
      have e2 : o = none := (Option.some.inj hm).symm
      have e3 : m = i := by omega
      subst e2 e3
      exact p
/-- a turn: from item x -/
def LcTurn (Pe : PeT) (H1 : Hp) (g : TG) (tt : TT) (te : TE) (vs : List Nat) (σ : L2.St) (i : Nat) (x : V) : Prop := ∀ H, Ex H1 H → ∀ (Q1 : VK) (Q2 : Hp → Prop), (∀ y H4, Ex H H4 → Pe i (some y) H4 → Q1 y H4) → (∀ H4, Ex H H4 → Pe i none H4 → Q2 H4) →
  g x (wipe σ vs) H fun σ2 H2 => wipe σ2 vs = wipe σ vs ∧ tt σ2 H2 fun b H3 => if b = true then te σ2 H3 Q1 else Q2 H3
variable {g : TG} {tt : TT} {te : TE} {vs : List Nat} {σ : L2.St} {Qd : Hp → Prop} {K : PySem.W.Frag} {a : Addr} {xs : List V}
theorem lcR (Pe : PeT) (mono : Mono Pe) (hD : H1 D = none) (hn : n ≤ 50000) (hs : ∀ i, i < n → LcTurn Pe H1 g tt te vs σ i (.int ((0 : Int) + i)))
    (hd : ∀ H' (os : List (Option V)), Ex H1 H' → os.length = n → H' D = some (.lst (os.filterMap id)) → (∀ i o, os[i]? = some o → Pe i o H') → Qd H') :
    ∃ W : Nat → Nat → Hp → Prop, (∃ m, W 0 m (upd H1 D (.lst []))) ∧ ∀ i m H, W i m H →
      ((Itr 0 n).stop i H ∧ Qd H) ∨ ((Itr 0 n).go i H ∧ ∃ Nx : Hp → Prop, (∀ H', Nx H' → ∃ m', m' < m ∧ W (i + 1) m' H') ∧ ∀ x H', (Itr 0 n).yld i H x H' → g x (wipe σ vs) H' fun σ2 H2 => wipe σ2 vs = wipe σ vs ∧ tt σ2 H2 fun b H3 =>
        if b = true then te σ2 H3 fun y H4 => ∃ acc, H4 D = some (.lst acc) ∧ acc.length < sizeLine ∧ Nx (upd H4 D (.lst (acc ++ [y]))) else Nx H3) :=
  lc_range (LcI H1 D Pe) (LcI.start hD) (fun i H hi I => hs i hi H I.ex _ _ (fun y H4 e p => I.more mono (by omega) e p) (fun H4 e p => I.less mono e p))
    (fun H I => by obtain ⟨_, e, os, hl, h, p⟩ := I; exact hd H os e hl h p)
theorem lcL (Pe : PeT) (mono : Mono Pe) (hD : H1 D = none) (hx : SqL K H1 a xs) (hn : xs.length ≤ 50000) (hs : ∀ i x, xs[i]? = some x → LcTurn Pe H1 g tt te vs σ i x)
    (hd : ∀ H' (os : List (Option V)), Ex H1 H' → os.length = xs.length → H' D = some (.lst (os.filterMap id)) → (∀ i o, os[i]? = some o → Pe i o H') → Qd H') :
    ∃ W : Nat → Nat → Hp → Prop, (∃ m, W 0 m (upd H1 D (.lst []))) ∧ ∀ i m H, W i m H →
      ((Itl K a).stop i H ∧ Qd H) ∨ ((Itl K a).go i H ∧ ∃ Nx : Hp → Prop, (∀ H', Nx H' → ∃ m', m' < m ∧ W (i + 1) m' H') ∧ ∀ x H', (Itl K a).yld i H x H' → g x (wipe σ vs) H' fun σ2 H2 => wipe σ2 vs = wipe σ vs ∧ tt σ2 H2 fun b H3 =>
        if b = true then te σ2 H3 fun y H4 => ∃ acc, H4 D = some (.lst acc) ∧ acc.length < sizeLine ∧ Nx (upd H4 D (.lst (acc ++ [y]))) else Nx H3) :=
  lc_list (LcI H1 D Pe) (LcI.start hD) (fun i H _ I => ex_l I.ex hx) (fun i x H hi I => hs i x hi H I.ex _ _ (fun y H4 e p => I.more mono (by have := (List.getElem?_eq_some_iff.mp hi).1; omega) e p) (fun H4 e p => I.less mono e p))
    (fun H I => by obtain ⟨_, e, os, hl, h, p⟩ := I; exact hd H os e hl h p)
theorem lcT (Pe : PeT) (mono : Mono Pe) (hD : H1 D = none) (hx : SqT K H1 a xs) (hn : xs.length ≤ 50000) (hs : ∀ i x, xs[i]? = some x → LcTurn Pe H1 g tt te vs σ i x)
    (hd : ∀ H' (os : List (Option V)), Ex H1 H' → os.length = xs.length → H' D = some (.lst (os.filterMap id)) → (∀ i o, os[i]? = some o → Pe i o H') → Qd H') :
    ∃ W : Nat → Nat → Hp → Prop, (∃ m, W 0 m (upd H1 D (.lst []))) ∧ ∀ i m H, W i m H →
      ((Itt K a).stop i H ∧ Qd H) ∨ ((Itt K a).go i H ∧ ∃ Nx : Hp → Prop, (∀ H', Nx H' → ∃ m', m' < m ∧ W (i + 1) m' H') ∧ ∀ x H', (Itt K a).yld i H x H' → g x (wipe σ vs) H' fun σ2 H2 => wipe σ2 vs = wipe σ vs ∧ tt σ2 H2 fun b H3 =>
        if b = true then te σ2 H3 fun y H4 => ∃ acc, H4 D = some (.lst acc) ∧ acc.length < sizeLine ∧ Nx (upd H4 D (.lst (acc ++ [y]))) else Nx H3) :=
  lc_tup (LcI H1 D Pe) (LcI.start hD) (fun i H _ I => ex_t I.ex hx) (fun i x H hi I => hs i x hi H I.ex _ _ (fun y H4 e p => I.more mono (by have := (List.getElem?_eq_some_iff.mp hi).1; omega) e p) (fun H4 e p => I.less mono e p))
    (fun H I => by obtain ⟨_, e, os, hl, h, p⟩ := I; exact hd H os e hl h p)
end
/-- every turn makes an item: Pf tells it -/
def All (Pf : Nat → V → Hp → Prop) : PeT := fun i o H => ∃ y, o = some y ∧ Pf i y H
theorem All.list {Pf : Nat → V → Hp → Prop} {H : Hp} : ∀ {os : List (Option V)} {k : Nat}, (∀ i o, os[i]? = some o → All Pf (k + i) o H) → ∃ ys : List V, os.filterMap id = ys ∧ ys.length = os.length ∧ ∀ i y, ys[i]? = some y → Pf (k + i) y H
  | [], _, _ => ⟨[], rfl, rfl, fun i y e => by simp at e⟩
  | o :: os, k, h => by
    obtain ⟨y, rfl, p⟩ := h 0 o rfl
    obtain ⟨ys, e1, e2, e3⟩ := All.list (os := os) (k := k + 1) (fun i o e => by
      have := h (i + 1) o e
      rwa [show k + (i + 1) = k + 1 + i by omega] at this)
    refine ⟨y :: ys, by rw [← e1]; rfl, by rw [List.length_cons, List.length_cons, e2], fun i z e => ?_⟩
    cases i with
    | zero =>
      have : y = z := Option.some.inj e
      subst this
      exact p
    | succ i =>
      have := e3 i z e
      rwa [show k + (i + 1) = k + 1 + i by omega]
theorem All.end {Pf : Nat → V → Hp → Prop} {H : Hp} {os : List (Option V)} (h : ∀ i o, os[i]? = some o → All Pf i o H) : ∃ ys : List V, os.filterMap id = ys ∧ ys.length = os.length ∧ ∀ i y, ys[i]? = some y → Pf i y H := by
  obtain ⟨ys, a, b, c⟩ := All.list (k := 0) (fun i o e => by rw [Nat.zero_add]; exact h i o e)
  exact ⟨ys, a, b, fun i y e => by have := c i y e; rwa [Nat.zero_add] at this⟩
theorem all_mono {Pf : Nat → V → Hp → Prop} (h : ∀ i v H H', ExT H H' → Pf i v H → Pf i v H') : Mono (All Pf) := fun i o H H' e ⟨y, a, b⟩ => ⟨y, a, h i y H H' e b⟩
theorem Kd.up {H H' : Hp} {v : V} {n : String} (e : Ex H H') (k : Kd H v n) : Kd H' v n := k.ex e
theorem Kd.new {H : Hp} {t : Addr} {o : HO} {v : V} {n : String} (h : H t = none) (k : Kd H v n) : Kd (upd H t o) v n := k.ex (Ex.new h)
theorem atI_in {xs : List V} {d : Int} (h0 : 0 ≤ d) (h1 : d < xs.length) : ∃ v, v ∈ xs ∧ atI xs d = some v := by
  obtain ⟨j, rfl⟩ := Int.eq_ofNat_of_zero_le h0
  have hj : j < xs.length := by omega
  exact ⟨xs[j], List.getElem_mem hj, atI_nat (List.getElem?_eq_getElem hj)⟩
theorem Th.up {H H' : Hp} {v : V} {b : Bool} (e : Ex H H') (k : Th H v b) : Th H' v b := by
  cases k with
  | other k h => exact .other (k.ex e) h
  | tup h ks => exact .tup (e _ _ h) fun x hx => let ⟨n, k⟩ := ks x hx; ⟨n, k.ex e⟩
theorem Th.kd {H : Hp} {v : V} {b : Bool} (k : Th H v b) : ∃ n, Kd H v n := by
  cases k with
  | other k h => exact ⟨_, k⟩
  | tup h ks => exact ⟨_, .tup h⟩
theorem Pool.up {H H' : Hp} {p : Addr} (e : Ex H H') (h : Pool H p) : Pool H' p := e _ _ h
theorem Pool.new {H : Hp} {t p : Addr} {o : HO} (ht : H t = none) (h : Pool H p) : Pool (upd H t o) p := upd_new ht h
theorem Th.new {H : Hp} {t : Addr} {o : HO} {v : V} {b : Bool} (ht : H t = none) (k : Th H v b) : Th (upd H t o) v b := k.up (Ex.new ht)
theorem ix_in {K : PySem.W.Frag} {H : Hp} {p : Addr} {xs : List V} {d : Int} {Q : VK} (h : SqL K H p xs ∨ SqT K H p xs) (h0 : 0 ≤ d) (h1 : d < xs.length) (q : ∀ v, v ∈ xs → Q v H) : rIx K (.ref p) (.int d) H Q := by
  obtain ⟨v, hv, ha⟩ := atI_in h0 h1
  rcases h with h | h
  · exact .inl ⟨p, xs, d, v, rfl, rfl, h, ha, q v hv⟩
  · exact .inr (.inl ⟨p, xs, d, v, rfl, rfl, h, ha, q v hv⟩)
/-- a heap without one object -/
def Minus (H : Hp) (p : Addr) : Hp := fun a => if a = p then none else H a
theorem minus_at {H : Hp} {p a : Addr} {o : HO} (n : a ≠ p) (h : H a = some o) : Minus H p a = some o := by
  unfold Minus
  rw [if_neg n]
  exact h
theorem minus_ex {H H' : Hp} {p : Addr} (b : But p H H') : Ex (Minus H p) H' := fun a o h => by
  unfold Minus at h
  by_cases n : a = p
  · rw [if_pos n] at h; cases h
  · rw [if_neg n] at h; exact b a o n h
theorem minus_lo {H : Hp} {p : Addr} : Ex (Minus H p) H := minus_ex But.refl
theorem ne_fresh {H : Hp} {a p : Addr} {o : HO} (h : H a = none) (hp : H p = some o) : a ≠ p := (ne_of_none hp h).symm
theorem But.ex {p : Addr} {H H0 H' : Hp} (e : Ex H H0) (h : H p = none) (b : But p H0 H') : Ex H H' := fun a o ha => b a o (ne_of_none ha h) (e a o ha)
theorem But.up {p : Addr} {H H1 H2 : Hp} (b : But p H H1) (e : Ex H1 H2) : But p H H2 := fun a o n h => e a o (b a o n h)
theorem mem_cut {xs : List V} {lo hi : Option Int} {x : V} (h : x ∈ cutV xs lo hi) : x ∈ xs := by
  unfold cutV at h
  exact List.mem_of_mem_drop (List.mem_of_mem_take h)
theorem mem_set {xs : List V} {j : Nat} {x y : V} (h : x ∈ xs.set j y) : x ∈ xs ∨ x = y := List.mem_or_eq_of_mem_set h
theorem ixN_in {n : Nat} {d : Int} (h0 : 0 ≤ d) (h1 : d < n) : ixN n d = some d.toNat := by
  unfold ixN
  rw [if_pos h0, if_pos h1]
/-- o[d] = v in bounds -/
theorem set_in {H : Hp} {p : Addr} {xs : List V} {d : Int} {v : V} {Q : Hp → Prop} (h : H p = some (.lst xs)) (h0 : 0 ≤ d) (h1 : d < xs.length) (q : Q (upd H p (.lst (xs.set d.toNat v)))) : rSetL (.ref p) (.int d) v H Q :=
  ⟨p, xs, d, d.toNat, rfl, rfl, h, ixN_in h0 h1, q⟩
theorem newEx {H H' : Hp} {t : Addr} {o : HO} (h : upd H t o = H') (n : H t = none) : Ex H H' := by rw [← h]; exact Ex.new n
theorem newAt {H H' : Hp} {t : Addr} {o : HO} (h : upd H t o = H') : H' t = some o := by rw [← h]; exact upd_same
theorem mutBut {H H' : Hp} {t : Addr} {o : HO} (h : upd H t o = H') : But t H H' := by rw [← h]; exact But.mut But.refl
theorem but_of {p : Addr} {H H' : Hp} (e : Ex H H') : But p H H' := fun x o _ h => e x o h
theorem law_fd {K : PySem.W.Frag} {mg : Str → Option Value} {x p : Str} {st : Stmt} {fa : Addr} (D : DefAt K mg x st) (b : Bnd x st [p]) (hfa : mg x = some (.ref fa)) : ∃ fd, Fun K x x st fa fd ∧ ∀ (s : Shared) (u : Value), BindsTo s fd ⟨[u], []⟩ [(p, u)] := by
  obtain ⟨f, fd, F, m⟩ := D.ex
  rw [m] at hfa
  cases hfa
  refine ⟨fd, F, ?_⟩
  obtain ⟨oc, od, kV, doc, pm, an, cdv, ct, osl, rfl, lk, hcd⟩ := F.ex
  exact fun s u => .of_eq (b kV doc pm an cdv ct [u] rfl)
/-- the law's promise -/
def spLaw (K : PySem.W.Frag) : Sp := fun vs H Q _ => ∃ (a : Addr) (ns : List Int), vs = [.ref a] ∧ SqL K H a (ns.map V.int) ∧ ns.length ≤ 63 ∧ ∀ H', Q (.bl true) H'
/-- a check of the law: whatever the pool gives, True -/
def spCheck : Sp := fun vs H Q _ => ∃ p, vs = [.ref p] ∧ Pool H p ∧ ∀ H', Ex H H' → Q (.bl true) H'
theorem all_true {ys : List V} (h : ∀ y ∈ ys, y = V.bl true) : ∃ bs : List Bool, ys = bs.map V.bl ∧ bs.all id = true := by
  refine ⟨List.replicate ys.length true, ?_, by simp⟩
  rw [List.map_replicate]
  exact List.eq_replicate_iff.mpr ⟨rfl, h⟩
theorem rep2 {H : Hp} {l : Addr} {xs : List V} {Q : VK} (h : H l = some (.lst xs)) (hl : xs.length ≤ 1000) (q : ∀ p, H p = none → Q (.ref p) (upd H p (.lst (xs ++ xs)))) : rRep (.ref l) (.int 2) H Q := by
  refine ⟨l, 2, xs, rfl, rfl, h, by decide, by decide, ?_, fun p n => ?_⟩
  · exact Nat.le_trans (by show xs.length * 2 ≤ 100000; omega) line_ge
  · have e : (List.replicate (2 : Int).toNat xs).flatten = xs ++ xs := by
      show xs ++ (xs ++ []) = _
      rw [List.append_nil]
    first
      | (rw [e]; exact q p n)
      | exact q p n
theorem const_mk {K : PySem.W.Frag} {h : Heap} {mg : Str → Option Value} {x : Str} {u : Value} {v : V} (X : K.In h) (G : h.Ns mainGlobals mg) (a : PySem.W.nsIn K mainGlobals x = some (some u)) (r : RelV v u) : ∃ u, mg x = some u ∧ RelV v u := ⟨u, PySem.W.mg_of X G a, r⟩
/-- a statement that is never reached -/
theorem ps_dead {X : Cx} {st : Stmt} : PS X st (fun _ _ _ => False) := ⟨fun _ _ _ _ _ _ h => h.elim⟩
theorem ixT_at {K : PySem.W.Frag} {H : Hp} {p : Addr} {xs : List V} {i : Int} {j : Nat} {v : V} {Q : VK} (h : SqT K H p xs) (e : i = (j : Int)) (hx : xs[j]? = some v) (q : Q v H) : rIx K (.ref p) (.int i) H Q :=
  .inr (.inl ⟨p, xs, i, v, rfl, rfl, h, by rw [e]; exact atI_nat hx, q⟩)
theorem ixL_at {K : PySem.W.Frag} {H : Hp} {p : Addr} {xs : List V} {i : Int} {j : Nat} {v : V} {Q : VK} (h : SqL K H p xs) (e : i = (j : Int)) (hx : xs[j]? = some v) (q : Q v H) : rIx K (.ref p) (.int i) H Q :=
  .inl ⟨p, xs, i, v, rfl, rfl, h, by rw [e]; exact atI_nat hx, q⟩
theorem but_no {p D : Addr} {H H' : Hp} {o : HO} (b : But p H H') (hp : H' p = some o) (h : H' D = none) : H D = none := by
  cases e : H D with
  | none => rfl
  | some u =>
    have ne : D ≠ p := fun z => by rw [z, hp] at h; cases h
    rw [b D u ne e] at h
    cases h
theorem But.trans {p : Addr} {H H1 H2 : Hp} (a : But p H H1) (b : But p H1 H2) : But p H H2 := fun x o n h => b x o n (a x o n h)
theorem ex_no {H H' : Hp} {a : Addr} (e : Ex H H') (h : H' a = none) : H a = none := by
  cases q : H a with
  | none => rfl
  | some o => rw [e a o q] at h; cases h
/-- what changed is new to the one ahead -/
theorem But.other {p D : Addr} {H H1 H2 : Hp} (a : But p H H1) (n : H D = none) (b : But D H1 H2) : But p H H2 := fun x o h1 h => b x o (ne_of_none h n) (a x o h1 h)
theorem nodup_len {β : Type} [DecidableEq β] : ∀ {ps qs : List β}, ps.Nodup → (∀ x ∈ ps, x ∈ qs) → ps.length ≤ qs.length
  | [], _, _, _ => Nat.zero_le _
  | p :: ps, qs, d, h => by
    have m := h p List.mem_cons_self
    obtain ⟨n, d'⟩ := List.nodup_cons.mp d
    have ih := nodup_len (ps := ps) (qs := qs.erase p) d' fun x k => (List.mem_erase_of_ne (fun e => n (by rw [← e]; exact k))).mpr (h x (List.mem_cons_of_mem _ k))
    rw [List.length_erase_of_mem m] at ih
    have : 0 < qs.length := List.length_pos_of_mem m
    rw [List.length_cons]
    omega
theorem paired_at {α β : Type} {R : α → β → Prop} {xs : List α} {ys : List β} (h : Paired R xs ys) : ∀ {i : Nat} {x : α}, xs[i]? = some x → ∃ y, ys[i]? = some y ∧ R x y := by
  induction h with
  | nil => intro i x e; simp at e
  | cons h _ ih =>
    intro i x e
    cases i with
    | zero => exact ⟨_, rfl, by cases e; exact h⟩
    | succ i => exact ih (i := i) e
theorem paired_at2 {α β : Type} {R : α → β → Prop} {xs : List α} {ys : List β} (h : Paired R xs ys) : ∀ {i : Nat} {y : β}, ys[i]? = some y → ∃ x, xs[i]? = some x ∧ R x y := by
  induction h with
  | nil => intro i x e; simp at e
  | cons h _ ih =>
    intro i x e
    cases i with
    | zero => exact ⟨_, rfl, by cases e; exact h⟩
    | succ i => exact ih (i := i) e
end Lw
/-! Tuples that know their object; dict(tuple of pairs); sorted(d.items()) of ints. -/
namespace Lw
open PySem PySem.Spec PyProof.Rows L2 Evl

/-- a tuple whose object has no dict of its own -/
def Tu (H : Hp) (p : Addr) (xs : List V) : Prop := ∃ o : Obj, o.dict = none ∧ H p = some (.frz o (.tup xs))
abbrev RowAt (H : Hp) (q : Addr) (p : Int × Int) : Prop := H q = some (.tup [.int p.1, .int p.2])
abbrev Rows (H : Hp) : List Addr → List (Int × Int) → Prop := Paired (RowAt H)
def kvI (ps : List (Int × Int)) : List (Key × V) := ps.map fun p => (.inl p.1, .int p.2)
theorem Tu.up {H H' : Hp} {p : Addr} {xs : List V} (e : Ex H H') (t : Tu H p xs) : Tu H' p xs := let ⟨o, a, b⟩ := t; ⟨o, a, e _ _ b⟩
theorem RowAt.up {H H' : Hp} {q : Addr} {p : Int × Int} (h : RowAt H q p) (e : Ex H H') : RowAt H' q p := e _ _ h
theorem Tu.sq {K : PySem.W.Frag} {H : Hp} {p : Addr} {xs : List V} (t : Tu H p xs) : SqT K H p xs := let ⟨o, _, b⟩ := t; .inl (.inr ⟨o, b⟩)
theorem Rows.up {H H' : Hp} (e : Ex H H') : ∀ {qs : List Addr} {ps : List (Int × Int)}, Rows H qs ps → Rows H' qs ps
  | _, _, .nil => .nil
  | _, _, .cons h t => .cons (e _ _ h) (Rows.up e t)
theorem u1 {a b : Nat} (h : a + 64 < b) : a + 1 < b := by omega
section
variable {X : Cx} {es : List Expr} {pos : Pos} {t : TA}
/-- tuple(xs), xs a list -/
theorem cr_tupF : CallR X (.type "tuple") (fun as H Q => ∃ p ys, as = [.ref p] ∧ SqL X.K H p ys ∧ ∀ l o, H l = none → o.dict = none → Q (.ref l) (upd H l (.frz o (.tup ys)))) := by
  intro pins s σ H as us Q I r hq
  obtain ⟨p, ys, rfl, hl, q⟩ := hq
  obtain rfl := Vals.ref1 r
  obtain ⟨its, rv, pl, hz⟩ := I.list hl
  refine call_tuple_list pl.isList (fun g kp => ?_) (by rw [List.size_toArray, ← rv.length]; exact hz)
  have J : Inv X pins σ H { s with heap := g } := I.kept (t' := s.toks) kp
  have hn := J.hok.fresh (Nat.le_refl _)
  refine ⟨.ref _, _, J.laid (t' := s.toks) (fun b o e => Heap.get?_push_of_some _ e) (Nat.le_refl _) (o := .frz { cls := .type "tuple", data := .seq its.toArray } (.tup ys)) ⟨Heap.get?_push_size _ rfl, hz, its, rv, IsTup.new _ _⟩, rfl, q _ _ hn rfl⟩
def tTupF (t : TA) : TE := fun σ H Q => t σ H fun xs H1 => xs.length ≤ sizeLine ∧ ∀ p o, H1 p = none → o.dict = none → Q (.ref p) (upd H1 p (.frz o (.tup xs)))
/-- (a, ..) -/
theorem pe_tupF {x1} (h : PA X es t) : PE X (.Tuple es x1 pos) (tTupF t) := by
  refine ⟨fun pins s σ H Q I hq => ?_⟩
  refine wpAny_Tuple_spliced (thn (h.run pos pins s σ H _ I hq) fun us s1 hh => ?_)
  obtain ⟨xs, H1, J, r, z, q⟩ := hh
  refine ⟨by rw [← r.length]; exact z, ?_⟩
  have hn := J.hok.fresh (Nat.le_refl _)
  refine ⟨.ref _, _, J.laid (t' := s1.toks) (fun b u e => Heap.get?_push_of_some _ e) (Nat.le_refl _) (o := .frz { cls := .type "tuple", data := .seq us.toArray } (.tup xs)) ⟨Heap.get?_push_size _ rfl, z, us, r, ⟨_, Heap.get?_push_size _ rfl, rfl, _, rfl⟩⟩, rfl, q _ _ hn rfl⟩
theorem rows_of {pins : List (Addr × Obj)} {σ : L2.St} {H : Hp} {s : Shared} (I : Inv X pins σ H s) : ∀ {qs : List Addr} {ps : List (Int × Int)}, Rows H qs ps →
    ∃ (vps : List (Value × Value)) (prs : List (Key × Value)), Paired (fun (q : Addr) (kv : Value × Value) => IsTup s.heap q #[kv.1, kv.2]) qs vps ∧ KV (kvI ps) prs ∧
      Paired (fun (pr : Key × Value) (kv : Value × Value) => keyIs pr.1 kv.1 = true ∧ pr.2 = kv.2) prs vps
  | _, _, .nil => ⟨[], [], .nil, .nil, .nil⟩
  | _, _, .cons (a := q) (b := p) h t => by
    obtain ⟨vps, prs, a, b, c⟩ := rows_of I t
    obtain ⟨its, rv, ht, _⟩ := I.tuple (SqT.of h)
    obtain ⟨u, y, rfl, ru, ry⟩ := vals2 rv
    obtain ⟨k, rfl⟩ := ru
    exact ⟨(.int p.1 k, y) :: vps, (.inl p.1, y) :: prs, .cons ht a, .cons ⟨rfl, ry⟩ b, .cons ⟨keyIs_int _ _, rfl⟩ c⟩
/-- dict(t), t a tuple of pairs of ints -/
theorem cr_dictT (hc : X.calm = true) : CallR X (.type "dict") (fun as H Q => ∃ a qs ps, as = [.ref a] ∧ Tu H a (qs.map V.ref) ∧ Rows H qs ps ∧ ∀ l, H l = none → Q (.ref l) (upd H l (.dK (mergeK [] (kvI ps))))) := by
  intro pins s σ H as us Q I r hq
  obtain ⟨a, qs, ps, rfl, ⟨o, hd, ho⟩, hr, q⟩ := hq
  obtain rfl := Vals.ref1 r
  obtain ⟨go, hz, its, rv, o', ho', hcl, n, hdat⟩ := I.hok a _ ho
  obtain rfl : o = o' := Option.some.inj (go.symm.trans ho')
  obtain rfl := refs_at rv
  rw [List.length_map] at hz
  obtain ⟨vps, prs, h1, h2, h3⟩ := rows_of I hr
  have l1 : qs.length = vps.length := Paired.length h1
  have l3 : prs.length = vps.length := Paired.length h3
  have key : ∀ j k v, vps[j]? = some (k, v) → ∃ b, qs[j]? = some b ∧ IsTup s.heap b #[k, v] := fun j k v e => by
    obtain ⟨b, hb, ht⟩ := L2.DX.pget h1 e
    exact ⟨b, hb, ht⟩
  refine PySem.call_dict_pairs (knd := mixKind X.prog X.w) (kvs := prs) (PairArg.tuple a (qs.map Value.ref).toArray (fun j => qs.getD j 0) vps) (I.ok.hd hc) ⟨⟨o, n, go, hcl, hd, hdat⟩, ?_, fun j k v e => ?_⟩ ⟨l3, fun i k v e => ?_⟩ (by omega) fun h' tk dd hk => ?_
  · rw [List.size_toArray, List.length_map]; exact l1
  · obtain ⟨b, hb, ht⟩ := key j k v e
    have eb : qs.getD j 0 = b := by rw [List.getD_eq_getElem?_getD, hb]; rfl
    refine ⟨?_, .inl ?_⟩
    · show (qs.map Value.ref).toArray[j]? = some (.ref (qs.getD j 0))
      rw [eb, List.getElem?_toArray, List.getElem?_map, hb]; rfl
    · show s.heap.IsTuple (qs.getD j 0) #[k, v]
      rw [eb]; exact ht
  · obtain ⟨⟨k', v'⟩, hp, hk, hv⟩ := L2.DX.pget h3 e
    exact ⟨k', by rw [hp, show v' = v from hv], hk⟩
  · have hm : (s.heap.objs.size == sysModules) = false := beq_eq_false_iff_ne.mpr (Nat.ne_of_gt I.big)
    have hlen : (mergeK [] (kvI ps)).length ≤ sizeLine := by
      refine Nat.le_trans (length_mergeK _ []) ?_
      rw [List.length_nil, Nat.zero_add, h2.length]
      omega
    exact ⟨.ref _, _, I.laid (t' := tk) (fun b u e => hk b u (fun z => nomatch z) e) (Nat.le_refl _) (o := .dK (mergeK [] (kvI ps))) ⟨hlen, hm, merged [] prs, KV.merge h2 .nil, dd⟩, rfl, q _ (I.hok.fresh (Nat.le_refl _))⟩
/-- the same context, one call deeper -/
theorem inA {pins : List (Addr × Obj)} {σ : L2.St} {H : Hp} {s : Shared} (I : Inv X pins σ H s) : Inv { X with A := X.A.in1 } pins σ H s := by
  obtain ⟨⟨a1, a2, a3, a4, a5, a6, a7, a8, a9, b1, b2, b3, b4, b5, b6, b7, b8, b9⟩, c1, c2, c3, c4, c5, c6, c7, c8, c9, d1⟩ := I
  exact ⟨⟨a1, a2, a3, a4, a5, a6, a7, a8, fun c => by show X.A.in1.handled = none; simpa using a9 c, b1, b2, b3, b4, b5, b6, b7, b8, b9⟩, c1, c2, c3, c4, c5, c6, c7, c8, c9, d1⟩
theorem outA {pins : List (Addr × Obj)} {σ : L2.St} {H : Hp} {s : Shared} (ok : X.Ok) (I : Inv { X with A := X.A.in1 } pins σ H s) : Inv X pins σ H s := by
  obtain ⟨_, c1, c2, c3, c4, c5, c6, c7, c8, c9, d1⟩ := I
  exact ⟨ok, c1, c2, c3, c4, c5, c6, c7, c8, c9, d1⟩
/-- d.items() -/
theorem mt_itemsK : MtR X "dict.items" (fun x as H Q => ∃ a kvs, x = .ref a ∧ as = [] ∧ H a = some (.dK kvs) ∧ ∀ p, H p = none → Q (.ref p) (upd H p (L2.DX.itemsO p a))) := by
  intro pins s σ H x as v us Q I rx rs hq
  obtain ⟨a, kvs, rfl, rfl, ha, q⟩ := hq
  cases rx
  cases rs
  obtain ⟨_, hd, vs, rel, o, es, ep, ho, hx, hdat, _⟩ := dk_of I.hok ha
  refine DT.callItems (es := es) (ep := ep) hd ⟨o, ho, hx, hdat⟩ ?_
  exact ⟨.ref _, _, I.laid (t' := s.toks) (fun b u e => Heap.get?_push_of_some _ e) (Nat.le_refl _) (L2.DX.itemsO_ok (Heap.get?_push_size _ rfl)), rfl, q _ (I.hok.fresh (Nat.le_refl _))⟩
theorem pairs_at {P : Program} {w : World} : ∀ {es : List DictEntry} {vs : List (Key × Value)} {kvs : List (Key × V)} {ps : List (Int × Int)} {j : Nat} {e : DictEntry}, Pairs (mixKind P w) es vs → KV kvs vs → kvs = kvI ps → es[j]? = some e →
    ∃ p t, ps[j]? = some p ∧ e.key = .int p.1 t ∧ RelV (.int p.2) e.val
  | _, _, _, _, j, e, .nil, _, _, h => by simp at h
  | _, _, _, [], _, _, .cons .., .cons .., hk, _ => by cases hk
  | _, _, _, p :: ps, 0, e, .cons h1 h2 t, .cons r1 r2, hk, h => by
    cases hk
    simp only [List.getElem?_cons_zero] at h
    cases h
    obtain ⟨r1, r3⟩ := r1
    rcases keyIs_shape (show keyIs _ _ = true from h1) with ⟨i, t, ek, ev⟩ | ⟨z, t, ek, ev⟩
    · rw [← r1] at ek
      cases ek
      exact ⟨p, t, rfl, ev, by rw [h2]; exact r3⟩
    · rw [← r1] at ek
      cases ek
  | _, _, _, p :: ps, j + 1, e, .cons h1 h2 t, .cons r1 r2, hk, h => by
    cases hk
    simp only [List.getElem?_cons_succ] at h
    obtain ⟨p', t', a, b, c⟩ := pairs_at t r2 rfl h
    exact ⟨p', t', by rw [List.getElem?_cons_succ]; exact a, b, c⟩
theorem rows_mk {H : Hp} : ∀ {as : List Addr} {ps : List (Int × Int)}, as.length = ps.length → (∀ (j : Nat) a, as[j]? = some a → ∃ p, ps[j]? = some p ∧ RowAt H a p) → Rows H as ps
  | [], [], _, _ => .nil
  | a :: as, p :: ps, hl, h => by
    refine .cons ?_ (rows_mk (by simpa using hl) fun j b e => ?_)
    · obtain ⟨p', e, r⟩ := h 0 a rfl
      cases e
      exact r
    · obtain ⟨p', e', r⟩ := h (j + 1) b e
      exact ⟨p', e', r⟩
  | [], _ :: _, hl, _ => by simp at hl
  | _ :: _, [], hl, _ => by simp at hl
def kOf (H : Hp) : V → Int × Int
  | .ref a => match H a with
    | some (.tup [.int x, .int y]) => (x, y)
    | _ => (0, 0)
  | _ => (0, 0)
theorem kOf_row {H : Hp} {a : Addr} {p : Int × Int} (h : RowAt H a p) : kOf H (.ref a) = p := by
  show (match H a with
    | some (.tup [.int x, .int y]) => (x, y)
    | _ => (0, 0)) = p
  rw [show H a = some (.tup [.int p.1, .int p.2]) from h]
def unref : V → Addr
  | .ref a => a
  | _ => 0
theorem rows_get {H : Hp} : ∀ {as : List Addr} {ps : List (Int × Int)}, Rows H as ps → ps = as.map fun a => kOf H (.ref a)
  | _, _, .nil => rfl
  | _, _, .cons h t => by rw [List.map_cons, kOf_row h, ← rows_get t]
theorem rows_mem {H : Hp} : ∀ {as : List Addr} {ps : List (Int × Int)}, Rows H as ps → ∀ a ∈ as, ∃ p, RowAt H a p
  | _, _, .cons h t, a, m => by
    rcases List.mem_cons.mp m with rfl | m
    · exact ⟨_, h⟩
    · exact rows_mem t a m
theorem rows_all {H : Hp} : ∀ {as : List Addr}, (∀ a ∈ as, ∃ p, RowAt H a p) → Rows H as (as.map fun a => kOf H (.ref a))
  | [], _ => .nil
  | a :: as, h => by
    obtain ⟨p, e⟩ := h a (by simp)
    exact .cons (by show RowAt H a (kOf H (.ref a)); rw [kOf_row e]; exact e) (rows_all fun b m => h b (List.mem_cons_of_mem _ m))
theorem rows_sub {H H' : Hp} : ∀ {as : List Addr} {ps : List (Int × Int)}, (∀ a ∈ as, ∀ o, H a = some o → H' a = some o) → Rows H as ps → Rows H' as ps
  | _, _, _, .nil => .nil
  | _, _, k, .cons h t => .cons (k _ (by simp) _ h) (rows_sub (fun a m => k a (List.mem_cons_of_mem _ m)) t)
theorem vals_refs : ∀ as : List Addr, Vals (as.map V.ref) (as.map Value.ref)
  | [] => .nil
  | _ :: as => .cons rfl (vals_refs as)
theorem rise_inj {as : List Nat} (h : as.Pairwise (· < ·)) {i j : Nat} {a : Nat} (hi : as[i]? = some a) (hj : as[j]? = some a) : i = j := by
  obtain ⟨li, ei⟩ := List.getElem?_eq_some_iff.mp hi
  obtain ⟨lj, ej⟩ := List.getElem?_eq_some_iff.mp hj
  have g := List.pairwise_iff_getElem.mp h
  by_cases c : i < j
  · have := g i j li lj c
    omega
  · by_cases c' : j < i
    · have := g j i lj li c'
      omega
    · omega
/-- a list of refs rearranged -/
theorem refs_perm {zs : List V} {as : List Addr} (h : zs.Perm (as.map V.ref)) : zs = (zs.map unref).map V.ref ∧ (zs.map unref).Perm as := by
  constructor
  · rw [List.map_map]
    refine (List.map_id zs).symm.trans (List.map_congr_left fun z hz => ?_)
    obtain ⟨a, _, rfl⟩ := List.mem_map.mp (h.mem_iff.mp hz)
    rfl
  · have e := h.map unref
    rw [List.map_map] at e
    exact e.trans (List.Perm.of_eq (List.map_id _))
/-- sorted(d.items()), keys and values ints -/
theorem cr_itemsS (hc : X.calm = true) : CallR X (.builtin "sorted") (fun as H Q => ∃ (v a : Addr) (ps : List (Int × Int)), as = [.ref v] ∧ H v = some (L2.DX.itemsO v a) ∧ H a = some (.dK (kvI ps)) ∧
    ∀ H' l (qs : List Addr) (rs : List (Int × Int)), Ex H H' → H' l = some (.lst (qs.map V.ref)) → Rows H' qs rs → rs.Perm ps → rs.Pairwise (fun p q => SrtO.lexB q p = false) → Q (.ref l) H') := by
  intro pins s σ H as us Q I r hq
  obtain ⟨v, a, ps, rfl, hv, ha, q⟩ := hq
  obtain rfl := Vals.ref1 r
  have view : s.heap.IsItemsView v a := (I.hok v _ hv).1
  obtain ⟨hz, hd, vs, rel, o, es, ep, ho, hx, hdat, hks, hps, hnd⟩ := dk_of I.hok ha
  have hn := hps.length
  rw [Array.length_toList] at hn
  have l1 : ps.length = vs.length := by rw [← rel.length]; exact (List.length_map _).symm
  have z1 : ps.length ≤ sizeLine := by rw [l1, ← rel.length]; exact hz
  refine DT.sortedI (es := es) (ep := ep) (I.ok.hd hc) view ⟨o, ho, hx, hdat⟩ (by omega) fun h' tk as hk hlt hl hG => ?_
  have lak : as.length = ps.length := by omega
  have nd : as.Nodup := hG.rise.imp fun h => Nat.ne_of_lt h
  have obj : ∀ (j : Nat) (b : Addr), as[j]? = some b → ∃ p k t, ps[j]? = some p ∧ RelV (.int p.2) t ∧ h'.get? b = some { cls := .type "tuple", data := .seq #[.int p.1 k, t] } := fun j b e => by
    obtain ⟨en, he, hg⟩ := hG.pairs j b e
    obtain ⟨p, k, ep, ek, ev⟩ := pairs_at hps rel rfl (by rw [← he]; exact Array.getElem?_toList)
    exact ⟨p, k, en.val, ep, ev, by rw [hg, ek]⟩
  have hob : (h'.push { cls := .type "list", data := .seq (as.map Value.ref).toArray }).get? h'.objs.size = some { cls := .type "list", data := .seq (as.map Value.ref).toArray } := Heap.get?_push_size _ rfl
  have old : ∀ b u, h'.get? b = some u → (h'.push { cls := .type "list", data := .seq (as.map Value.ref).toArray }).get? b = some u := fun b u e => Heap.get?_push_of_some _ e
  generalize hL : h'.objs.size = L at *
  generalize h'.push { cls := .type "list", data := .seq (as.map Value.ref).toArray } = g at *
  have J : Inv X pins σ (upd H L (.lst (as.map V.ref))) { s with heap := g, toks := tk } :=
    I.laid (t' := tk) (fun b u e => old b u (hk b u e)) (Nat.le_of_lt hlt) ⟨by rw [List.length_map, lak]; exact z1, as.map Value.ref, 0, vals_refs as, hob⟩
  have ltL : ∀ b ∈ as, b ≠ L := fun b hb => Nat.ne_of_lt (by rw [← hL]; exact hG.there hb)
  obtain ⟨H2, J2, up, hT⟩ := L2.DX.takeT (P := fun b vs => ∃ (j : Nat) (p : Int × Int), as[j]? = some b ∧ ps[j]? = some p ∧ vs = [.int p.1, .int p.2]) I as _ J nd fun b hb => by
    obtain ⟨j, hj⟩ := List.mem_iff_getElem?.mp hb
    obtain ⟨p, k, t, hp, rt, hg⟩ := obj j b hj
    have lb := hG.above b hb
    refine ⟨Nat.le_of_lt lb, by rw [upd_ne (ltL b hb)]; exact I.hok.fresh (Nat.le_of_lt lb), [.int p.1, .int p.2], ⟨j, p, hj, hp, rfl⟩, fun H2 => ?_⟩
    exact ⟨by show 2 ≤ sizeLine; decide, [.int p.1 k, t], .cons ⟨k, rfl⟩ (.cons rt .nil), _, old _ _ hg, rfl, 0, rfl⟩
  have rw2 : Rows H2 as ps := rows_mk lak fun j b e => by
    obtain ⟨vs', ⟨j', p, e1, e2, e3⟩, e4⟩ := hT b (List.mem_of_getElem? e)
    obtain rfl := rise_inj hG.rise e e1
    exact ⟨p, e2, by rw [e3] at e4; exact e4⟩
  have hs := mt_sortPO (X := { X with A := X.A.in1 }) pins _ σ H2 (.ref L) [] (.ref L) [] (fun _ H3 => ∃ zs, SrtO.Srtd (ltP (kOf H2)) zs ∧ SrtO.Stb (ltP (kOf H2)) zs (as.map V.ref) ∧ H3 = upd H2 L (.lst zs)) (inA J2) rfl .nil
    ⟨L, as.map V.ref, kOf H2, rfl, rfl, up _ _ upd_same, fun y hy => by
      obtain ⟨b, hb, rfl⟩ := List.mem_map.mp hy
      obtain ⟨p, hp⟩ := rows_mem rw2 b hb
      exact ⟨b, rfl, by rw [kOf_row hp]; exact hp⟩, fun zs h1 h2 => ⟨zs, h1, h2, rfl⟩⟩
  refine wpAny_mono hs (fun _ s' x => ?_) fun _ _ e => e
  obtain ⟨_, _, J3, _, zs, h1, h2, rfl⟩ := x
  obtain ⟨e1, e2⟩ := refs_perm h2.perm
  have sub : ∀ b ∈ zs.map unref, b ∈ as := fun b hb => e2.mem_iff.mp hb
  refine ⟨.ref L, _, outA I.ok J3, rfl, q _ L (zs.map unref) ((zs.map unref).map fun a => kOf H2 (.ref a)) ?_ (by rw [upd_same, ← e1]) ?_ ?_ ?_⟩
  · intro b u e
    have hb : b ≠ L := ne_of_none e (I.hok.fresh (Nat.le_of_lt hlt))
    rw [upd_ne hb]
    exact up b u (by rw [upd_ne hb]; exact e)
  · exact rows_sub (fun b hb u e => by rw [upd_ne (ltL b (sub b hb))]; exact e) (rows_all fun b hb => rows_mem rw2 b (sub b hb))
  · rw [rows_get rw2]
    exact e2.map _
  · rw [e1] at h1
    exact List.pairwise_map.mpr (List.pairwise_map.mp h1)
end
theorem Rows.len {H : Hp} {qs : List Addr} {ps : List (Int × Int)} (r : Rows H qs ps) : qs.length = ps.length := Paired.length r
theorem rows_at {H : Hp} : ∀ {qs : List Addr} {ps : List (Int × Int)} {i : Nat} {p : Int × Int}, Rows H qs ps → ps[i]? = some p → ∃ q, qs[i]? = some q ∧ RowAt H q p
  | _, _, i, p, r, h => L2.DX.pget r h
theorem rows_at' {H : Hp} {qs : List Addr} {ps : List (Int × Int)} {i : Nat} {v : V} (r : Rows H qs ps) (h : (qs.map V.ref)[i]? = some v) : ∃ q p, v = .ref q ∧ qs[i]? = some q ∧ ps[i]? = some p ∧ RowAt H q p := by
  rw [List.getElem?_map] at h
  cases e : qs[i]? with
  | none => rw [e] at h; cases h
  | some q =>
    rw [e] at h
    obtain rfl : V.ref q = v := Option.some.inj h
    have li := (List.getElem?_eq_some_iff.mp e).1
    rw [r.len] at li
    obtain ⟨q', e', ra⟩ := rows_at r (List.getElem?_eq_getElem li)
    rw [e] at e'
    cases e'
    exact ⟨q, _, rfl, rfl, List.getElem?_eq_getElem li, ra⟩
end Lw
/-! Sets of ints, told by a comprehension. -/
namespace Lw
open PySem PySem.Spec PyProof.Rows L2 Evl
section
variable {X : Cx}
abbrev setNil (w : World) : Obj := { cls := .type "set", dict := none, data := .set #[] 0 (.fresh 0 0 (!w.params.followText "set-order")) }
/-- {e for x in it if ..}, e an int: D the new set -/
def tScI (w : World) (wi : TI) (g : TG) (tt : TT) (te : TE) (vs : List Nat) : TE := fun σ H Q => wi σ H fun J H1 => ∀ D, H1 D = none →
  ∃ W : Nat → Nat → Hp → Prop, (∃ m, W 0 m (upd H1 D (SetO w D (fun _ => false) 0))) ∧ ∀ i m G, W i m G → (J.stop i G ∧ Q (.ref D) G) ∨
    (J.go i G ∧ ∃ Nx : Hp → Prop, (∀ G', Nx G' → ∃ m', m' < m ∧ W (i + 1) m' G') ∧ ∀ x G', J.yld i G x G' → g x (wipe σ vs) G' fun σ2 G2 => wipe σ2 vs = wipe σ vs ∧ tt σ2 G2 fun b G3 =>
      if b = true then te σ2 G3 fun y G4 => ∃ (c : Int) (S : Int → Bool) (n : Nat), y = .int c ∧ G4 D = some (SetO w D S n) ∧ n + 1 < scanBound ∧
        Nx (upd G4 D (SetO w D (fun j => S j || decide (j = c)) (if S c = true then n else n + 1))) else Nx G3)
variable {pins : List (Addr × Obj)} {s : Shared} {σ : L2.St} {H : Hp} {Q : VK} {elt tg iter : Expr} {ifs : List Expr} {sc : Scope} {own : List (PySem.Str × Nat)} {pos pos' : Pos} {wi : TI} {g : TG} {tt : TT} {te : TE}
set_option maxHeartbeats 4000000 in
theorem pe_scI (hc : X.calm = true) (hN : X.N.Nodup) (hi : PI X tg iter wi) (ok : BlkOk X.N X.env.scope sc own)
    (hg : ∀ (s : Shared) (H : Hp) (C : Addr) (cl : List (PySem.Str × Addr)) (fp : List Addr), PG (X.blk s H sc (compEnvC sc cl C X.env) fp) tg g)
    (ht : ∀ (s : Shared) (H : Hp) (C : Addr) (cl : List (PySem.Str × Addr)) (fp : List Addr), PTs (X.blk s H sc (compEnvC sc cl C X.env) fp) ifs tt)
    (he : ∀ (s : Shared) (H : Hp) (C : Addr) (cl : List (PySem.Str × Addr)) (fp : List Addr), PE (X.blk s H sc (compEnvC sc cl C X.env) fp) elt te) (hs : ∀ x, foldedSetIterable iter X.env x = pure x := by intro _; rfl) :
    PE X (.SetComp elt [⟨tg, iter, ifs, 0⟩] sc pos) (tScI X.w wi g tt te (own.map (·.2))) := by
  refine ⟨fun pins s σ H Q I hq => ?_⟩
  rw [PpSet.eval_SetComp]
  have clo : ∀ y ∈ sc.names, y.2 = .free → ∃ c, X.env.cells.lookup y.1 = some c := fun y m e => (ok.free y m e).elim (fun k => I.ok.has _ (.inl k)) fun k => I.ok.has _ (.inr k)
  refine wpAny_comprehension_free rfl hs (closure_ok clo) ok.kind (fun y m e => by rw [ok.uniq y m, e]) (thn (hi.run pins s σ H _ I hq) fun _ s1 a1 => thn a1 fun _ s2 a2 => ?_)
  obtain ⟨it, fp, tn, J, G0, rfl, I2, T, t0, f0, q⟩ := a2
  refine PpSet.newSet_ok (newEnv_comp ?_)
  have fr := I2.hok.fresh (Nat.le_refl s2.heap.objs.size)
  have I3 : Inv X pins σ (upd G0 s2.heap.objs.size (SetO X.w s2.heap.objs.size (fun _ => false) 0)) { s2 with heap := s2.heap.push (setNil X.w) } :=
    I2.laid (t' := s2.toks) (fun b u e => Heap.get?_push_of_some _ e) (Nat.le_refl _) (setO_new (setR_fresh X.w))
  have lt2 : ∀ b ∈ fp, b < s2.heap.objs.size := fun b m => let ⟨_, e, _⟩ := T.obj _ _ t0 b m; Heap.lt_size e
  have t3 : tn 0 (s2.heap.push (setNil X.w)) := T.keep _ _ _ t0 fun b _ u e => Heap.get?_push_of_some _ e
  have f3 : ∀ b ∈ fp, FpOk X pins (upd G0 s2.heap.objs.size (SetO X.w s2.heap.objs.size (fun _ => false) 0)) b ∧ b < (s2.heap.push (setNil X.w)).objs.size := fun b m =>
    ⟨⟨by rw [upd_ne (Nat.ne_of_lt (lt2 b m))]; exact (f0 b m).1, (f0 b m).2⟩, by rw [Heap.size_push]; exact Nat.lt_succ_of_lt (lt2 b m)⟩
  obtain ⟨W, ⟨m0, w0⟩, turn⟩ := q _ fr
  clear fr lt2 f0 I2 t0 q
  generalize s2.heap.objs.size = D at *
  generalize upd G0 D (SetO X.w D (fun _ => false) 0) = G3 at *
  generalize hs3 : ({ s2 with heap := s2.heap.push (setNil X.w) } : Shared) = s3 at *
  have h3 : s2.heap.push (setNil X.w) = s3.heap := by rw [← hs3]
  rw [h3] at t3 f3
  have I4 := block_start I3 ok hN f3
  have pg := hg s3 G3 s3.heap.objs.size (cellsFrom (s3.heap.objs.size + 1) sc.names (cloFrom X.env.cells sc.names [])) fp
  have pt := ht s3 G3 s3.heap.objs.size (cellsFrom (s3.heap.objs.size + 1) sc.names (cloFrom X.env.cells sc.names [])) fp
  have pe := he s3 G3 s3.heap.objs.size (cellsFrom (s3.heap.objs.size + 1) sc.names (cloFrom X.env.cells sc.names [])) fp
  show codeAny _ _ (.compStart (.SetComp elt [⟨tg, iter, ifs, 0⟩] sc pos) 0 (.ref it) (.ref D) (compEnvC sc (cellsFrom (s3.heap.objs.size + 1) sc.names (cloFrom X.env.cells sc.names [])) s3.heap.objs.size X.env))
    (compPost (model X.prog X.w) X.A X.xe _ _ (.ref D) s3.heap.objs.size) { s3 with heap := pushCells (s3.heap.push { cls := .type "dict", data := .dict #[] }) sc.names }
  have n3 : ∀ b ∈ fp, G3 b = none := fun b m => (f3 b m).1.1
  generalize hce : compEnvC sc (cellsFrom (s3.heap.objs.size + 1) sc.names (cloFrom X.env.cells sc.names [])) s3.heap.objs.size X.env = ce at *
  have eL : ce.locals = s3.heap.objs.size := by rw [← hce]; rfl
  have t4 : tn 0 (pushCells (s3.heap.push { cls := .type "dict", data := .dict #[] }) sc.names) := T.keep _ _ _ t3 fun b _ u e => pushCells_keeps _ _ _ _ (Heap.get?_push_of_some _ e)
  generalize pushCells (s3.heap.push { cls := .type "dict", data := .dict #[] }) sc.names = g4 at *
  let Y := X.blk s3 G3 sc ce fp
  have still : ∀ {σ' : L2.St} {G : Hp} {z : Shared}, Inv Y [] σ' G z → (∀ b ∈ fp, G b = none) → ∀ b ∈ fp, FpOk Y [] G b := fun {σ' G z} J hn b m =>
    ⟨hn b m, (J.ok.exf b m).1, J.ok.exfs b m, .inl m, fun x c e => (J.ok.exf b m).2 x c e, fun p hp => nomatch (show p ∈ ([] : List (Addr × Obj)) from hp)⟩
  have main : codeAny (model X.prog X.w) X.A (.compLoop (.SetComp elt [⟨tg, iter, ifs, 0⟩] sc pos) 0 (.ref it) (.ref D) ce) (compPost (model X.prog X.w) X.A X.xe none (EP X pins σ Q) (.ref D) s3.heap.objs.size) { s3 with heap := g4 } := by
    refine PpSet.compLoopS_any (fun n z => ∃ i G, Inv Y [] (wipe σ (own.map (·.2))) G z ∧ tn i z.heap ∧ (∀ b ∈ fp, G b = none) ∧ W i n G) ?_ m0 ⟨0, G3, I4, t4, n3, w0⟩
    rintro n z ⟨i, G5, J5, t5, n5, w5⟩
    rcases turn i n G5 w5 with ⟨hstop, fin⟩ | ⟨hgo, Nx, dec, step⟩
    · refine thnF (T.done Y rfl rfl rfl hc i [] z _ G5 (fun _ _ => False) J5 (still J5 n5) t5 hstop) fun r z6 x6 => ?_
      obtain ⟨rfl, J6⟩ := x6
      have J7 : Inv X pins σ G5 z6 := I3.call' (ch := fp) J6.os J6.base J6.hok J6.bare fun b m => ⟨(f3 b m).1.2.2.2.1, (f3 b m).1.2.1, (f3 b m).1.2.2.2.2.1, (f3 b m).1.2.2.2.2.2⟩
      obtain ⟨mm, hns, _⟩ := J6.loc
      have hns : z6.heap.Ns ce.locals mm := hns
      have nL : G5 ce.locals = none := J6.free
      rw [eL] at hns nL
      refine ⟨mm, hns, fun h9 sb => ?_⟩
      obtain ⟨p0, p1, p2, p3, p4, p5⟩ := I3.fpOk (Nat.le_refl _) nL
      exact ⟨.ref D, G5, J7.turned (t' := z6.toks) (fun b u hb e => (sb.2 b hb).trans e) p0 p1 p3 p4 p5, rfl, fin⟩
    · refine thnF (T.item Y rfl rfl rfl hc i [] z _ G5 (fun _ _ => False) J5 (still J5 n5) t5 hgo) fun r z6 x6 => ?_
      obtain ⟨u, rfl, x6⟩ := x6
      refine thnF x6 fun _ z7 x7 => ?_
      obtain ⟨x, G7, J7, r7, y7, t7, n7⟩ := x7
      have J7' := J7.pinned (still J7 n7) (T.obj _ _ t7)
      refine thnF (pg.run _ z7 _ G7 x u _ J7' r7 (step x G7 y7)) fun _ z8 x8 => ?_
      obtain ⟨σ8, G8, J8, hw, q8⟩ := x8
      refine thnF (pt.run _ z8 σ8 G8 _ J8 q8) fun b z9 x9 => ?_
      obtain ⟨G9, J9, q9⟩ := x9
      have close : ∀ {z' : Shared} {G' : Hp}, Inv Y ([] ++ pinsAt fp z7.heap) σ8 G' z' → Nx G' → ∃ m, m < n ∧ ∃ i G, Inv Y [] (wipe σ (own.map (·.2))) G z' ∧ tn i z'.heap ∧ (∀ b ∈ fp, G b = none) ∧ W i m G := fun {z' G'} J' nx => by
        obtain ⟨m', lt, w'⟩ := dec G' nx
        have held : ∀ b ∈ fp, ∀ u, z7.heap.get? b = some u → z'.heap.get? b = some u ∧ G' b = none := fun b m u e => by
          have k := J'.pin (b, u) (List.mem_append_right _ (List.mem_append_right _ (mem_pinsAt m e)))
          exact ⟨k.1, k.2.1⟩
        refine ⟨m', lt, i + 1, G', (J'.unpinned (pins := [])).weak (by rw [← hw, wipe_length]) (fun j v e => by rw [← hw] at e; exact (wipe_some e).1), T.keep _ _ _ t7 fun b m u e => (held b m u e).1, fun b m => ?_, w'⟩
        obtain ⟨u, e, _⟩ := T.obj _ _ t7 b m
        exact (held b m u e).2
      cases b with
      | false => exact close J9 q9
      | true =>
        refine thnF (pe.run _ z9 σ8 G9 _ J9 q9) fun v z10 x10 => ?_
        obtain ⟨y, G10, J10, r10, c, S, k, rfl, hD, hz, nx⟩ := x10
        refine thnF (mt_sadd (X := Y) _ z10 σ8 G10 (.ref D) [.int c] (.ref D) [v] (fun _ G => Nx G) J10 rfl (.cons r10 .nil) ⟨D, c, S, k, rfl, rfl, hD, hz, nx⟩) fun _ z11 x11 => ?_
        obtain ⟨_, G11, J11, _, nx⟩ := x11
        exact close J11 nx
  exact PpSet.codeAny_compStart_set main (T.self X.A 0 _ _ _ t4 main)
/-- over a tuple that stays, every item gives the int f x -/
theorem scT {w : World} {K : PySem.W.Frag} {a : Addr} {xs : List V} {g : TG} {te : TE} {vs : List Nat} {σ : L2.St} {H1 : Hp} {D : Addr} {Qd : Hp → Prop} (f : V → Int) (hD : H1 D = none) (hx : SqT K H1 a xs) (hn : xs.length ≤ 1000)
    (turn : ∀ (i : Nat) x, xs[i]? = some x → ∀ H, Ex H1 H → ∀ Q1 : VK, (∀ G, Ex H G → Q1 (.int (f x)) G) → g x (wipe σ vs) H fun σ2 H2 => wipe σ2 vs = wipe σ vs ∧ tYes σ2 H2 fun b H3 => if b = true then te σ2 H3 Q1 else False)
    (done : ∀ H' S n, Ex H1 H' → H' D = some (SetO w D S n) → (∀ k, S k = true ↔ ∃ x ∈ xs, f x = k) → n ≤ xs.length → Qd H') :
    ∃ W : Nat → Nat → Hp → Prop, (∃ m, W 0 m (upd H1 D (SetO w D (fun _ => false) 0))) ∧ ∀ i m G, W i m G → ((Itt K a).stop i G ∧ Qd G) ∨
      ((Itt K a).go i G ∧ ∃ Nx : Hp → Prop, (∀ G', Nx G' → ∃ m', m' < m ∧ W (i + 1) m' G') ∧ ∀ x G', (Itt K a).yld i G x G' → g x (wipe σ vs) G' fun σ2 G2 => wipe σ2 vs = wipe σ vs ∧ tYes σ2 G2 fun b G3 =>
        if b = true then te σ2 G3 fun y G4 => ∃ (c : Int) (S : Int → Bool) (n : Nat), y = .int c ∧ G4 D = some (SetO w D S n) ∧ n + 1 < scanBound ∧
          Nx (upd G4 D (SetO w D (fun j => S j || decide (j = c)) (if S c = true then n else n + 1))) else Nx G3) := by
  let Inn : Nat → Hp → Prop := fun i G => Ex H1 G ∧ ∃ S n, G D = some (SetO w D S n) ∧ (∀ k, S k = true ↔ ∃ x ∈ xs.take i, f x = k) ∧ n ≤ i
  refine ⟨fun i m G => m = xs.length - i ∧ i ≤ xs.length ∧ Inn i G, ⟨xs.length, by simp, Nat.zero_le _, Ex.new hD, _, 0, upd_same, fun k => by simp, Nat.le_refl _⟩, ?_⟩
  rintro i m G ⟨rfl, hi, e, S, n, hS, hk, hle⟩
  have hq := ex_t e hx
  by_cases lt : i < xs.length
  · have gx : xs[i]? = some xs[i] := List.getElem?_eq_getElem lt
    refine .inr ⟨⟨xs, xs[i], hq, gx⟩, Inn (i + 1), fun G' p => ⟨xs.length - (i + 1), by omega, rfl, lt, p⟩, fun x G' y => ?_⟩
    obtain ⟨rfl, y⟩ := y
    obtain rfl : x = xs[i] := Option.some.inj ((y xs hq).symm.trans gx)
    refine turn i _ gx _ e _ fun G4 e4 => ⟨f xs[i], S, n, rfl, e4 _ _ hS, ?_, Ex.mut (e.trans e4) hD, _, _, upd_same, fun k => ?_, ?_⟩
    · show n + 1 < 4096
      omega
    · rw [Bool.or_eq_true, hk, decide_eq_true_eq, List.take_add_one, gx]
      constructor
      · rintro (⟨x, m, h⟩ | rfl)
        · exact ⟨x, List.mem_append_left _ m, h⟩
        · exact ⟨_, List.mem_append_right _ (by simp), rfl⟩
      · rintro ⟨x, m, h⟩
        rcases List.mem_append.mp m with m | m
        · exact .inl ⟨x, m, h⟩
        · have : x = xs[i] := by simpa using m
          subst this
          exact .inr h.symm
    · split <;> omega
  · obtain rfl : i = xs.length := by omega
    exact .inl ⟨⟨xs, hq, Nat.le_refl _⟩, done G S n e hS (fun k => by rw [hk, List.take_length]) hle⟩
end
end Lw
/-! Exceptions of one's own: Base.__init__(self, ..), Base an own class without an __init__. -/
namespace Lw
open PySem PySem.Spec PyProof.Rows L2 Evl
section
variable {X : Cx} {e : Expr} {es : List Expr} {ta : TA} {p1 p2 pos : Pos} {x : Str} {B : Addr}
/-- what the written part says of the base -/
structure BaseC (K : PySem.W.Frag) (B : Addr) : Prop where
  ga : PySem.W.specialIn K (.ref B) "__getattribute__" = some (some (.builtin "type.__getattribute__"))
  ty : PySem.W.typeIn K (.ref B) = some (.type "type")
  rd : PySem.W.readsIn K B (.type "type") = true
  fc : PySem.W.findCls K (.ref B) (.type "type") "__init__" = some (.val (.builtin "ValueError.__init__"))
theorem pe_binit {pl : Sem Bool} (hg : Gl X x) (hm : X.mg x = some (.ref B)) (b : BaseC X.K B) (ha : PA X (e :: es) ta) (hd : (x == ("__debug__" : Str)) = false := by decide)
    (hc : eval (.Call (.Attribute (.Name x p1) "__init__" p2) (e :: es) [] pos) X.env = (do
      let ov ← eval (.Name x p1) X.env
      standAt p2.atName
      let (f, first) ← holding [ov] (getMethod ov "__init__" pl)
      callWith pos f first (backTo pos (starEach (e :: es) X.env)) (backToKw pos (keywordEach [] X.env))) := by rfl)
    (hs : starEach (e :: es) X.env = (false, eval e X.env) :: starEach es X.env := by rfl) (hpl : (backTo pos (starEach es X.env)).any (·.1) = false := by rfl) :
    PE X (.Call (.Attribute (.Name x p1) "__init__" p2) (e :: es) [] pos) (tVeI X.K ta) := by
  refine ⟨fun pins s σ H Q I hq => ?_⟩
  refine PySem.W.methodCall_KW (ld_glob I hg hm ?_ hd) hc
  obtain ⟨m, fr⟩ := I.fr
  refine PySem.W.method_of_cls fr I.ok.mod.kin b.ga (PySem.W.cls_val fr I.ok.mod.kin b.ty b.rd b.fc (by decide +kernel) ?_)
  show wpAny _ _ (callWith pos (Value.builtin "ValueError.__init__") [] (backTo pos (starEach (e :: es) X.env)) []) _ _ _
  refine PyProof.Rows.callWith_method1 (thn (ha.run pos pins _ σ H _ (I.tok _) hq) fun us s1 hh => ?_) hs hpl
  obtain ⟨vs, H1, J, rv, a, C, ws, rfl, hl, T, ea, q⟩ := hh
  cases rv with
  | cons r0 rt =>
    cases r0
    exact oinit_ok T J ea (by rw [← Paired.length rt]; exact Nat.le_trans hl (by decide)) fun s' J' => ⟨.non, H1, J', rfl, q⟩
end
section
variable {P : Program} {w : World} {K : PySem.W.Frag} {mg : Str → Option Value} {base : Heap} {k : Nat} {x : Str} {st : Stmt} {ps N : List Str} {sp : Sp}
/-- a def that may raise -/
theorem clX_of (D : DefAt K mg x st) (S : FnScope N ps (defScope st)) (len : ∀ vs H Q E, sp vs H Q E → vs.length = ps.length)
    (hbody : ∀ (f : Addr) (cdv : Value) (A : Around) (outer : List Env) (s : Shared) (H : Hp) (vs : List V) (Q : VK) (E : XK), Room k (A.deeper (envOfC x (defScope st) s.heap.objs.size f cdv)) → sp vs H Q E →
      ∃ t, PSs (cxOf (L2.CX P w) P w K mg base N x (defScope st) f cdv A outer s H E) (defBody st) t ∧ t { nx := fun _ H' => Q .non H', rt := Q } (start N vs) H) : Cl P w K mg base (L2.CX P w) (k + 1) x st ps sp := by
  obtain ⟨f, fd, F, m⟩ := D.ex
  exact ⟨f, fd, F, F.okX S len (hbody f), m⟩
end
/-- what an own exception's __init__ does: Base.__init__(self, ..), self.value = value -/
def spInit (C : Addr) : Sp := fun vs H Q _ => ∃ a v, H a = some (exo a C none) ∧ vs = [.ref a, v] ∧ ∀ d, H d = none → d ≠ a → Q .non (upd (upd H d (exd d [("value", v)])) a (exo a C (some d)))
/-- an own exception class of the text: its __init__ keeps spInit -/
structure ExcAt (P : Program) (w : World) (K : PySem.W.Frag) (mg : Str → Option Value) (base : Heap) (x : Str) (C : Addr) : Prop where
  nm : mg x = some (.ref C)
  oex : OexC K C
  ini : ∃ f fd, PySem.W.findIn K (.ref C) "__init__" = some (some (.ref f)) ∧ PySem.W.typeIn K (.ref f) = some (.type "function") ∧ FnOk P w K mg base CX0 1 f fd ["self", "value"] (spInit C) ∧ Binds K fd ["self", "value"] []
section
variable {X : Cx} {e : Expr} {te : TE} {x : Str} {C : Addr} {p pos : Pos} {W : WX}
/-- raise x(e) -/
theorem ps_raiseO {ta : TA} (hc : X.calm = true) (tk : Takes X W) (c : ExcAt X.prog X.w X.K X.mg X.base x C) (hr : Room 2 X.A) (hg : Gl X x) (ha : PA X [e] ta) (hd : (x == ("__debug__" : Str)) = false := by decide)
    (hs : starEach [e] X.env = (false, eval e X.env) :: starEach [] X.env := by rfl) (hpl : (backTo p (starEach [] X.env)).any (·.1) = false := by rfl) {q : Pos} :
    PS X (.Raise (some (.Call (.Name x q) [e] [] p)) none pos) (fun _ σ H => tMkO C (spInit C) [] ta σ H fun cls d H' => W cls d σ H') := by
  obtain ⟨f, fd, iC, tI, F1, hb⟩ := c.ini
  exact ps_raise (pos := pos) hc tk (pmk_oex (p := q) (pos := p) c.oex iC tI F1 hr hb .nil pass0 hg c.nm ha hd hs hpl)
end
/-- what a raise of such a class comes to -/
theorem mkO_in {C : Addr} {v : V} {H1 : Hp} {Q : XK} (q : ∀ d H2, Ex H1 H2 → H2 d = some (.xd [("value", v)]) → Q (.ref C) (some d) H2) :
    [v].length ≤ 1000 ∧ ∀ a, H1 a = none → spInit C (.ref a :: ([v] ++ [])) (upd H1 a (exo a C none))
      (fun v H2 => v = .non ∧ ∃ (d : Addr) (fs : List (Str × V)), H2 a = some (exo a C (some d)) ∧ H2 d = some (exd d fs) ∧ H1 d = none ∧ Q (.ref C) (some d) (upd (del H2 a) d (.xd fs))) (fun _ _ _ => False) := by
  refine ⟨by show 1 ≤ 1000; decide, fun a na => ?_⟩
  refine ⟨a, v, upd_same, rfl, fun d hd2 ne => ?_⟩
  have hd1 : H1 d = none := by rw [upd_ne ne] at hd2; exact hd2
  refine ⟨rfl, d, _, upd_same, by rw [upd_ne ne, upd_same], hd1, q d _ (fun b u hb => ?_) upd_same⟩
  have n1 : b ≠ d := ne_of_none hb hd1
  have n2 : b ≠ a := ne_of_none hb na
  rw [upd_ne n1]
  show (if b = a then none else _) = _
  rw [if_neg n2, upd_ne n2, upd_ne n1, upd_ne n2]
  exact hb
/-- what the text says of an own exception class that has its own __init__ -/
structure ClsAt (K : PySem.W.Frag) (mg : Str → Option Value) (x q : Str) (st : Stmt) : Prop where
  ex : ∃ (C B f : Addr) (fd : FuncData), mg x = some (.ref C) ∧ OexC K C ∧ PySem.W.findIn K (.ref C) "__init__" = some (some (.ref f)) ∧ PySem.W.typeIn K (.ref f) = some (.type "function") ∧
    Fun K "__init__" q st f fd ∧ PySem.W.findIn K (.ref C) "value" = some none ∧ mg "FormError" = some (.ref B) ∧ BaseC K B
theorem clsAt_mk {K : PySem.W.Frag} {mg : Str → Option Value} {x q : Str} {st : Stmt} {h : Heap} {C B f N : Addr} {nm qq : Str} {bs bm : List Value} {sn : List Str} {sub : List Value} {ab : Bool} {col : Option Bool} {dd : Option Addr} {k0 k1 k2 k3 k5 : Option Value}
    {oc : Value} {od an : Option Addr} {osl : Array (Option Value)} {kV doc pm cdv ct : Value} (X : K.In h) (G : h.Ns mainGlobals mg) (a : PySem.W.nsIn K mainGlobals x = some (some (.ref C)))
    (cl : K.lookup C = some (excClassObj nm qq C N bs bm true sn sub ab col dd k0 k1 k2 k3 k5 "ValueError.__new__")) (r : PySem.HandSPX.refsVE bm = true)
    (sa : PySem.W.findIn K (.ref C) "__setattr__" = some (some (.builtin "object.__setattr__"))) (exC : PySem.W.subIn K (.ref C) (.type "BaseException") = some true) (tyC : PySem.W.typeIn K (.ref C) = some (.type "type")) (kC : PySem.W.keepIn K (.ref C) = true)
    (i : PySem.W.findIn K (.ref C) "__init__" = some (some (.ref f))) (ti : PySem.W.typeIn K (.ref f) = some (.type "function"))
    (l : K.lookup f = some ⟨oc, od, .func (PySem.W.fnOf "__init__" q (defArgs st) (defBody st) (defScope st) .none kV doc pm an cdv ct), osl⟩) (c : PySem.W.codeIn K cdv q = true) (kp : PySem.W.keepIn K (.ref f) = true)
    (no : PySem.W.findIn K (.ref C) "value" = some none) (aB : PySem.W.nsIn K mainGlobals "FormError" = some (some (.ref B)))
    (ga : PySem.W.specialIn K (.ref B) "__getattribute__" = some (some (.builtin "type.__getattribute__"))) (ty : PySem.W.typeIn K (.ref B) = some (.type "type")) (rd : PySem.W.readsIn K B (.type "type") = true)
    (fc : PySem.W.findCls K (.ref B) (.type "type") "__init__" = some (.val (.builtin "ValueError.__init__"))) : ClsAt K mg x q st :=
  ⟨C, B, f, _, PySem.W.mg_of X G a, ⟨⟨_, _, _, _, _, _, _, _, _, _, _, _, _, _, _, cl, r⟩, sa, exC, tyC, kC⟩, i, ti, fun_mk l c kp, no, PySem.W.mg_of X G aB, ga, ty, rd, fc⟩
end Lw
/-! try: .. except (A, B, C) as e: .., where the suite keeps the exception in a name: behind the suite it is an object like others. -/
namespace Lw
open PySem PySem.Spec PyProof.Rows L2 Evl
/-- at a: an exception, its class and its dict are known -/
def exc (a : Addr) (cls : Value) (d : Option Addr) : HO := .ext fun g => ∃ (oe : Obj) (fv : Array Value), g.get? a = some oe ∧ Zc cls d oe ∧ oe.data = .fields fv
theorem exc_ok {P : Program} {w : World} {H : Hp} {g : Heap} {a : Addr} {cls : Value} {d : Option Addr} {oe : Obj} {fv : Array Value} (e : g.get? a = some oe) (z : Zc cls d oe) (f : oe.data = .fields fv) : ObjOk P w H g a (exc a cls d) :=
  ⟨⟨oe, fv, e, z, f⟩, ⟨oe, e⟩, fun _ _ ⟨o, v, q, r⟩ st => ⟨o, v, st o q, r⟩⟩
section
variable {X : Cx} {pins : List (Addr × Obj)} {σ : L2.St} {H : Hp} {s : Shared} {a : Addr} {cls : Value} {d : Option Addr} {oe : Obj} {fv : Array Value}
/-- an object that no one tracked, made behind the def's start -/
theorem inv_caught (I : Inv X pins σ H s) (hn : H a = none) (h0 : a ∈ X.ex ∨ X.s_0.heap.get? a = none) (hL : a ≠ X.env.locals) (hp : ∀ p ∈ X.pn ++ pins, p.1 ≠ a) (e : s.heap.get? a = some oe) (z : Zc cls d oe) (f : oe.data = .fields fv) :
    Inv X pins σ (upd H a (exc a cls d)) s := by
  have old : ∀ {b u}, H b = some u → upd H a (exc a cls d) b = some u := fun {b u} q => by rw [upd_ne (ne_of_none q hn)]; exact q
  have was : ∀ {b o}, X.s_0.heap.get? b = some o → b ∉ X.ex → b ≠ a := fun {b o} q hx zz => by
    rcases h0 with h0 | h0
    · exact hx (zz ▸ h0)
    · rw [zz, h0] at q; cases q
  refine ⟨I.ok, I.os, I.bare, ⟨I.base.keep, I.base.slot, fun b o q n hx => ?_, I.base.there, fun b xs q => old (I.base.tups b xs q), fun b o u q => old (I.base.frzs b o u q), fun b qs q => ?_⟩, I.loc, I.cell, ?_, fun x c q => ?_, fun p m => ?_, fun b u q => ?_, I.len⟩
  · rw [upd_ne (was q hx)]
    exact I.base.free b o q n hx
  · obtain ⟨more, m⟩ := I.base.tbls b qs q
    exact ⟨more, old m⟩
  · rw [upd_ne (Ne.symm hL)]
    exact I.free
  · have ne : c ≠ a := fun zz => by
      obtain ⟨v, ob, ho, hd⟩ := I.cell x c q
      rw [zz, e] at ho
      cases ho
      rw [f] at hd
      cases hd
    rw [upd_ne ne]
    exact I.freeC x c q
  · obtain ⟨p1, p2, p3⟩ := I.pin p m
    exact ⟨p1, by rw [upd_ne (hp p m)]; exact p2, p3⟩
  · by_cases hb : b = a
    · subst hb
      rw [upd_same] at q
      cases q
      exact exc_ok e z f
    · rw [upd_ne hb] at q
      exact (I.hok b u q).stay (fun _ _ _ r => r) (fun c r => old r) fun c xs r => old r
theorem sky_new {B : Heap} {l : List Env} {Z : Obj → Prop} {L : Addr} {h : Heap} (k : Sky B l a Z L h) : B.get? a = none := by
  rcases k with k | k | k
  · exact k.2.1
  · exact k.2.1
  · exact k.2.1
theorem flying_more {B : Heap} {l : List Env} {Z : Obj → Prop} {h g : Heap} (k : HandSPX.FlyingZ B l a Z h) (st : ∀ b o, h.get? b = some o → g.get? b = some o) : HandSPX.FlyingZ B l a Z g := by
  obtain ⟨k1, k2, k3, oe, vs, T, oT, ts, a1, a2, a3, a4, a5, a6, a7, a8⟩ := k
  exact ⟨fun b o q => st _ _ (k1 b o q), k2, Heap.FunFrames.of_keeps (fun b o q _ => ⟨o, st _ _ q, rfl⟩) k3, oe, vs, T, oT, ts, st _ _ a1, a2, a3, a4, a5, a6, st _ _ a7, a8⟩
/-- what is wished of an exception of the body: slot i is the clause's name; the suite runs through -/
def wKept (K : PySem.W.Frag) (N : Nat) (cs : List Value) (i : Nat) (ts : Addr → Value → Option Addr → TS) (D : Ends) : WX := fun cls d σ H =>
  PySem.W.exmAny K cls cs = some true ∧ ∀ a, H a = none → σ.length = N → ts a cls d { nx := fun σ' H' => H' a = none → D.nx (σ'.set i none) (upd H' a (exc a cls d)), rt := fun _ _ => False, bk := fun _ _ => False, ct := fun _ _ => False } (σ.set i (some (.ref a))) H
end
section
variable {X : Cx} {x1 x2 x3 n : Str} {c1 c2 c3 : Addr} {i : Nat} {body suite : List Stmt} {b₀ : Stmt} {q1 q2 q3 tp pos pos' : Pos} {tx} {tb : WX → TS} {ts : Addr → Value → Option Addr → TS}
set_option maxHeartbeats 4000000 in
theorem ps_try_kept (hst : X.stack = X.env :: X.outer) (hf : X.env.frame = some X.env.locals) (hN : X.N.Nodup) (hi : X.N[i]? = some n) (hln : X.env.kindOf n = some .local)
    (g1 : Gl X x1) (m1 : X.mg x1 = some (.ref c1)) (g2 : Gl X x2) (m2 : X.mg x2 = some (.ref c2)) (g3 : Gl X x3) (m3 : X.mg x3 = some (.ref c3))
    (hb : ∀ (W : WX) (pn : List (Addr × Obj)) (xe : Value → Shared → Prop), Takes (X.tr pn xe) W → PSs (X.tr pn xe) body (tb W))
    (hsu : ∀ (a : Addr) (oe : Obj) (cls : Value) (d : Option Addr) (pn : List (Addr × Obj)), PSs (X.suite a ((a, oe) :: pn)) (b₀ :: suite) (ts a cls d))
    (d1 : (x1 == ("__debug__" : Str)) = false := by decide) (d2 : (x2 == ("__debug__" : Str)) = false := by decide) (d3 : (x3 == ("__debug__" : Str)) = false := by decide) :
    PS X (.Try body [.ExceptHandler (some (.Tuple [.Name x1 q1, .Name x2 q2, .Name x3 q3] tx tp)) (some n) (b₀ :: suite) pos'] [] [] pos) (fun D σ H => tb (wKept X.K X.N.length [.ref c1, .ref c2, .ref c3] i ts D) D σ H) := by
  refine ⟨fun pins s σ H D I hq => ?_⟩
  have ok := I.ok
  have frm : X.A.frames = some (X.env :: X.outer) := by rw [ok.frames, hst]
  have lcl : Loc X.env.scope n := .inl hln
  refine wpAny_Try_except ?_
  refine wpAny_mono ((hb (wKept X.K X.N.length [.ref c1, .ref c2, .ref c3] i ts D) (X.pn ++ pins) (fun z s₁ => wpAny (model X.prog X.w) X.A (noteFrame z X.env) (fun _ s₂ => wpAny (model X.prog X.w) X.A (setFlight z none) (fun _ s₃ =>
    wpAny (model X.prog X.w) X.A (handleBy z X.env [.ExceptHandler (some (.Tuple [.Name x1 q1, .Name x2 q2, .Name x3 q3] tx tp)) (some n) (b₀ :: suite) pos']) (SP X pins D) X.xe s₃) X.xe s₂) X.xe s₁) (fun u s' xx => ?_)).run [] s σ H D (I.toTry _) hq) (fun fl s1 hsp => ?_) (fun z s1 hz => hz)
  · obtain ⟨a, B, sI, pins', σ', H', cls, d, rfl, J', nb, up, sky, na, os, ag, hm, hyes⟩ := xx
    have J : Inv X pins σ' H' sI := J'.ofTry ok
    have new0 := sky_new sky
    have sky' : Sky B (X.env :: X.outer) a (Zc cls d) X.env.locals s'.heap := by rw [← hst]; exact sky
    show wpAny (model X.prog X.w) X.A (noteFrame (.ref a) X.env) _ _ _
    refine Sky.land Zc.steady frm hf sky' fun h3 fl3 up3 => ?_
    have J3 : Inv X pins σ' H' { s' with heap := h3 } := J.landed nb fl3.1 (up.trans up3) os ag
    obtain ⟨oe3, vs3, he3, hz3, hd3⟩ := fl3.there
    have notF : ∀ {g : Heap} {o : Obj} {vs : Array Value}, g.FunFrames B (X.env :: X.outer) → g.get? a = some o → o.data = .fields vs → a ∉ frs (X.env :: X.outer) := fun {g o vs} ff e dd hmem => by
      obtain ⟨_, o', e', no⟩ := ff.mem hmem
      rw [e] at e'; cases e'
      exact no _ dd
    have nfr := notF fl3.2.2.1 he3 hd3
    have nL : a ≠ X.env.locals := fun zz => nfr (List.mem_filterMap.mpr ⟨X.env, List.mem_cons_self, by rw [hf, zz]⟩)
    have nF : a ∉ X.fs := fun hmem => by
      obtain ⟨en, he, q⟩ := List.mem_filterMap.mp hmem
      exact nfr (List.mem_filterMap.mpr ⟨en, List.mem_cons_of_mem _ he, q⟩)
    have newI : sI.heap.get? a = none := by
      cases hg : sI.heap.get? a with
      | none => rfl
      | some o =>
        have q := nb a o hg (by rw [hst]; exact nfr)
        rw [new0] at q
        cases q
    have new00 : a ∈ X.ex ∨ X.s_0.heap.get? a = none := by
      cases hg : X.s_0.heap.get? a with
      | none => exact .inr rfl
      | some o =>
        by_cases hx : a ∈ X.ex
        · exact .inl hx
        · obtain ⟨o', e'⟩ := J.base.there a o hg hx
          rw [newI] at e'
          cases e'
    have newp : ∀ p ∈ X.pn ++ pins, p.1 ≠ a := fun p m zz => by
      have := (J.pin p m).1
      rw [zz, newI] at this
      cases this
    have S3 := J3.suite he3 hd3 na nL nF
    refine wpAny_handleBy_cons (codeAny_handlers_test ?_) (by intro q; cases q)
    refine wpAny_Tuple_spliced ?_
    show wpAny _ _ (spliced [(false, eval (.Name x1 q1) X.env), (false, eval (.Name x2 q2) X.env), (false, eval (.Name x3 q3) X.env)]) _ _ _
    refine Calls.spliced_cons (ld_glob (X := X.suite a ((a, oe3) :: (X.pn ++ pins))) S3 g1 m1 ?_ d1)
    refine Calls.spliced_cons (ld_glob (X := X.suite a ((a, oe3) :: (X.pn ++ pins))) S3 g2 m2 ?_ d2)
    refine Calls.spliced_cons (ld_glob (X := X.suite a ((a, oe3) :: (X.pn ++ pins))) S3 g3 m3 ?_ d3)
    refine Calls.spliced_nil ⟨by show 3 ≤ sizeLine; decide, ?_⟩
    have kp : ∀ b o, h3.get? b = some o → (h3.push { cls := .type "tuple", data := .seq [Value.ref c1, .ref c2, .ref c3].toArray }).get? b = some o := fun b o q => Heap.get?_push_of_some _ q
    have htup : (h3.push { cls := .type "tuple", data := .seq [Value.ref c1, .ref c2, .ref c3].toArray }).get? h3.objs.size = some { cls := .type "tuple", data := .seq [Value.ref c1, .ref c2, .ref c3].toArray } := Heap.get?_push_size _ rfl
    show wpAny _ _ (excMatches (.ref a) (.ref h3.objs.size)) _ _ { s' with heap := h3.push { cls := .type "tuple", data := .seq [Value.ref c1, .ref c2, .ref c3].toArray } }
    generalize h3.push { cls := .type "tuple", data := .seq [Value.ref c1, .ref c2, .ref c3].toArray } = g3 at *
    have fl5 := flying_more fl3 kp
    have up5 : h3.UpToSlots g3 := fun b o q _ => ⟨o.slots, kp b o q⟩
    have LT : PySem.W.Looks (model X.prog X.w) g3 (typeOf (.ref a)) cls := fun A Q E st k q => wpAny_typeOf_ref (k _ _ (kp _ _ he3)) (by rw [hz3.1]; exact q)
    have LM := PySem.W.exm_tup3 (M := model X.prog X.w) (J3.kIn.keeps kp) LT htup hm
    refine LM.here ?_
    refine codeAny_handlers_suite_as ?_
    refine HandSPX.lands_againZ fl5 fun h4 fl4 up4 => ?_
    have J4 : Inv X pins σ' H' { s' with heap := h4 } := J.landed nb fl4.1 (((up.trans up3).trans up5).trans up4) os ag
    obtain ⟨oe4, vs4, he4, hz4, hd4⟩ := fl4.there
    have S4 := J4.suite he4 hd4 na nL nF
    refine store_ok (X := X.suite a ((a, oe4) :: (X.pn ++ pins))) (v := .ref a) S4 hN hi lcl rfl (fun s5 S5 => ?_) (.inr hln)
    refine wpAny_mono ((hsu a oe4 cls d (X.pn ++ pins)).run [] s5 _ H' _ S5 (hyes a na J.len)) (fun fl s6 hsp => ?_) (fun _ _ zz => False.elim zz)
    cases fl with
    | next =>
      obtain ⟨σ6, H6, S6, q6⟩ := hsp
      obtain ⟨p1, p2, p3⟩ := S6.pin (a, oe4) (List.mem_append_left _ List.mem_cons_self)
      have S7 := inv_caught (S6.unsuite ok) p2 new00 nL newp p1 hz4 hd4
      exact gone_ok S7 hN hi hln fun s7 J7 => ⟨_, _, J7, q6 p2⟩
    | brk =>
      obtain ⟨σ6, H6, S6, q6⟩ := hsp
      exact q6.elim
    | cont =>
      obtain ⟨σ6, H6, S6, q6⟩ := hsp
      exact q6.elim
    | ret u =>
      obtain ⟨v6, σ6, H6, S6, r6, q6⟩ := hsp
      exact q6.elim
  · cases fl with
    | next =>
      obtain ⟨σ', H', J', q⟩ := hsp
      exact wpAny_execs_nil ⟨σ', H', J'.ofTry ok, q⟩
    | brk =>
      obtain ⟨σ', H', J', q⟩ := hsp
      exact ⟨σ', H', J'.ofTry ok, q⟩
    | cont =>
      obtain ⟨σ', H', J', q⟩ := hsp
      exact ⟨σ', H', J'.ofTry ok, q⟩
    | ret u =>
      obtain ⟨v, σ', H', J', r, q⟩ := hsp
      exact ⟨v, σ', H', J'.ofTry ok, r, q⟩
end
/-- what a class of exceptions must say, so that its instances are asked and read rightly -/
structure ExcK (K : PySem.W.Frag) (C : Addr) : Prop where
  ga : PySem.W.findIn K (.ref C) "__getattribute__" = some (some (.builtin "BaseException.__getattribute__"))
  gt : PySem.W.findIn K (.ref C) "__getattr__" = some none
  sb : PySem.W.subIn K (.ref C) (.type "BaseException") = some true
  hd : PySem.W.hasDictIn K C = true
  ca : PySem.W.findIn K (.ref C) "__class__" = some (some (.builtin "object.__class__"))
  cg : PySem.W.specialIn K (.builtin "object.__class__") "__get__" = some (some (.builtin "getset_descriptor.__get__"))
  ct : PySem.W.takesIn K (.builtin "object.__class__") = some true
  mo : PySem.W.mroIn K C (.type "object") = some true
theorem exc_at {P : Program} {w : World} {H : Hp} {h : Heap} {a : Addr} {cls : Value} {d : Option Addr} (hok : HOk P w H h) (e : H a = some (exc a cls d)) : ∃ (oe : Obj) (fv : Array Value), h.get? a = some oe ∧ Zc cls d oe ∧ oe.data = .fields fv := by
  have x : ObjOk P w H h a (.ext fun g => ∃ (oe : Obj) (fv : Array Value), g.get? a = some oe ∧ Zc cls d oe ∧ oe.data = .fields fv) := hok a _ e
  exact x.1
/-- isinstance(e, c), e a caught exception of an own class -/
def rIsX (K : PySem.W.Frag) (D : Addr) : List V → Hp → VK → Prop := fun xs H Q => ∃ (a dd : Addr) (c : V) (cv : Value) (b : Bool) (fs : List (Str × V)), H a = some (exc a (.ref D) (some dd)) ∧ H dd = some (.xd fs) ∧ xs = [.ref a, c] ∧ (∀ u, RelV c u → u = cv) ∧ PySem.W.kitOne K (.ref D) cv = some b ∧ Q (.bl b) H
theorem call_isX {X : Cx} {D : Addr} (C : ExcK X.K D) : CallR X (.builtin "isinstance") (rIsX X.K D) := by
  intro pins s σ H xs us Q I r hq
  obtain ⟨a, dd, c, cv, b, fs, he, hdd, rfl, hcv, e, q⟩ := hq
  obtain ⟨u1, u2, rfl, r1, r2⟩ := vals2 r
  cases r1
  obtain rfl := hcv _ r2
  obtain ⟨oe, fv, g1, g2, g3⟩ := exc_at I.hok he
  obtain ⟨mA, hns, _⟩ : ObjOk X.prog X.w H s.heap dd (.xd fs) := I.hok dd _ hdd
  obtain ⟨od, ho, _⟩ := lookIn_ns hns
  have J : PySem.W.InstAt s.heap a oe D (some od) := ⟨g1, g2.1, by unfold PySem.W.notCls; rw [g3] <;> rfl, by rw [g2.2]; exact ho⟩
  obtain ⟨cd, hc, _⟩ := PySem.W.any_some C.hd
  exact PySem.W.kia_one (PySem.W.kitx_exc (by rw [hc]; rfl) C.ga C.gt C.sb C.ca C.cg C.ct C.mo) I.kIn J e (fun zz => nomatch zz) fun tk => ⟨.bl b, H, I.kept (t' := tk) fun _ _ zz => zz, rfl, q⟩
/-- e.n, e a caught exception of an own class -/
def tXk (D : Addr) (n : Str) (te : TE) : TE := fun σ H Q => te σ H fun x H1 => ∃ (a dd : Addr) (fs : List (Str × V)) (v : V), x = .ref a ∧ H1 a = some (exc a (.ref D) (some dd)) ∧ H1 dd = some (.xd fs) ∧ fs.lookup n = some v ∧ Q v H1
theorem pe_xk {X : Cx} {D : Addr} {e : Expr} {te : TE} {pos : Pos} {n : Str} (C : ExcK X.K D) (no : PySem.W.findIn X.K (.ref D) n = some none) (he : PE X e te) (hb : attributeBase e n X.env (eval e X.env) = eval e X.env := by rfl) : PE X (.Attribute e n pos) (tXk D n te) := by
  refine ⟨fun pins s σ H Q I hq => ?_⟩
  refine attr_of hb (thn (he.run pins s σ H _ I hq) fun u s1 hh => ?_)
  obtain ⟨x, H1, I1, rx, a, dd, fs, v, rfl, ha, hdd, l, q⟩ := hh
  cases rx
  obtain ⟨oe, fv, g1, g2, g3⟩ := exc_at I1.hok ha
  obtain ⟨mA, hns, hr⟩ : ObjOk X.prog X.w H1 s1.heap dd (.xd fs) := I1.hok dd _ hdd
  obtain ⟨od, ho, hl⟩ := lookIn_ns hns
  obtain ⟨u, hu, ru⟩ := RelO.some_of (v := v) (o := mA n) (by rw [← l]; exact hr n)
  have J : PySem.W.InstAt s1.heap a oe D (some od) := ⟨g1, g2.1, by unfold PySem.W.notCls; rw [g3] <;> rfl, by rw [g2.2]; exact ho⟩
  exact HandSPX.exc_get I1.kIn J C.ga C.gt C.sb (PySem.W.findObj_own C.hd no rfl (by rw [hl, hu])) (handed_of ru) ⟨v, H1, I1.tok _, ru, q⟩
end Lw
/-! Defs that ask repr of lists and tuples: what is known of the repr calls under way (none) goes from call to call. -/
namespace Lw
open PySem PySem.Spec PyProof.Rows L2 Evl LamX
/-- as FnOk, where no repr is under way -/
structure FnG (P : Program) (w : World) (K : PySem.W.Frag) (mg : Str → Option Value) (base : Heap) (CX : CXT) (k : Nat) (f : Addr) (fd : FuncData) (ps : List Str) (sp : Sp) : Prop where
  len : ∀ vs H Q E, sp vs H Q E → vs.length = ps.length
  run : ∀ (A : Around) (outer : List Env) (s : Shared) (H : Hp) (args : Args) (us : List Value) (vs : List V) (Q : VK) (E : XK), A.guards = some [] → Room k A → Env0 P w K mg base A outer s H → BindsTo s fd args (ps.zip us) →
    Vals vs us → sp vs H Q E → codeAny (model P w) A (.call (.ref f) args) (CR CX outer P w H s Q E) s
structure ClG (P : Program) (w : World) (K : PySem.W.Frag) (mg : Str → Option Value) (base : Heap) (CX : CXT) (k : Nat) (x : Str) (st : Stmt) (ps : List Str) (sp : Sp) : Prop where
  ex : ∃ (f : Addr) (fd : FuncData), Fun K x x st f fd ∧ FnG P w K mg base CX k f fd ps sp ∧ mg x = some (.ref f)
section
variable {P : Program} {w : World} {K : PySem.W.Frag} {mg : Str → Option Value} {base : Heap} {k : Nat} {x : Str} {st : Stmt} {ps N : List Str} {sp : Sp} {CX : CXT}
theorem clG_of (D : DefAt K mg x st) (S : FnScope N ps (defScope st)) (len : ∀ vs H Q E, sp vs H Q E → vs.length = ps.length)
    (hbody : ∀ (f : Addr) (cdv : Value) (A : Around) (outer : List Env) (s : Shared) (H : Hp) (vs : List V) (Q : VK) (E : XK), A.guards = some [] → Room k (A.deeper (envOfC x (defScope st) s.heap.objs.size f cdv)) → sp vs H Q E →
      ∃ t, PSs (cxOf CX0 P w K mg base N x (defScope st) f cdv A outer s H E).nox (defBody st) t ∧ t { nx := fun _ H' => Q .non H', rt := Q } (start N vs) H) : ClG P w K mg base CX0 (k + 1) x st ps sp := by
  obtain ⟨f, fd, F, m⟩ := D.ex
  refine ⟨f, fd, F, ?_, m⟩
  obtain ⟨oc, od, kV, doc, pm, an, cdv, ct, osl, rfl, lk, hcd⟩ := F.ex
  refine ⟨len, fun A outer s H args us vs Q E gd hr e0 hb r hs => run_ofS lk hcd S hr e0 hb r (len _ _ _ _ hs) fun hr' => ?_⟩
  obtain ⟨t, h, q⟩ := hbody f cdv A outer s H vs Q E gd hr' hs
  exact ⟨t, h.nox, q⟩
theorem ClG.at {f : Addr} {fd : FuncData} (c : ClG P w K mg base CX k x st ps sp) (F : Fun K x x st f fd) (m : mg x = some (.ref f)) : FnG P w K mg base CX k f fd ps sp := by
  obtain ⟨f', fd', F', o, m'⟩ := c.ex
  rw [m] at m'
  cases m'
  obtain ⟨oc, od, kV, doc, pm, an, cdv, ct, osl, rfl, lk, _⟩ := F.ex
  obtain ⟨oc', od', kV', doc', pm', an', cdv', ct', osl', rfl, lk', _⟩ := F'.ex
  have e := Option.some.inj (lk.symm.trans lk')
  injection e with _ _ e _
  injection e with e
  rw [e]
  exact o
end
section
variable {X : Cx} {CX : CXT} {k j : Nat} {x : Str} {st : Stmt} {sp : Sp} {ps : List Str} {p pos : Pos} {e : Expr} {es : List Expr} {t : TA} {E : XK}
/-- f(a, ..), no repr under way -/
theorem pe_clG (c : ClG X.prog X.w X.K X.mg X.base CX k x st ps sp) (b : Bnd x st ps) (gd : X.A.guards = some []) (hr : Room j X.A) (hk : k ≤ j) (hg : Gl X x) (hx : Passes CX X E) (ha : PA X (e :: es) t)
    (hdb : (x == ("__debug__" : Str)) = false := by decide) (he : starEach (e :: es) X.env = (false, eval e X.env) :: starEach es X.env := by rfl) (hpl : (backTo pos (starEach es X.env)).any (·.1) = false := by rfl) :
    PE X (.Call (.Name x p) (e :: es) [] pos) (tCall sp [] E t) := by
  obtain ⟨f, fd, F, o, m⟩ := c.ex
  refine ⟨fun pins s σ H Q I hq => wpAny_Call_Name_kw (ld_glob I hg m (PySem.W.callWith_K (h₀ := X.base) I.ok.mod.kin F.kp (thn (ha.run pos pins s σ H _ I hq) fun us s1 hh => ?_) he hpl) hdb)⟩
  obtain ⟨vs, H1, J, r, q⟩ := hh
  refine ⟨J.kIn, ?_⟩
  rw [List.append_nil] at q
  have hl : us.length = ps.length := r.length.symm.trans (o.len _ _ _ _ q)
  have bt : BindsTo s1 fd ⟨us, []⟩ (ps.zip us) := by
    have z := F.binds b s1 us J.kIn (by rw [List.append_nil]; exact hl)
    rwa [List.append_nil] at z
  refine wpAny_call (codeAny_mono (o.run X.A X.stack s1 H1 ⟨us, []⟩ us vs Q E gd (hr.mono hk) J.env0 bt r q) fun res s2 hq2 => ?_)
  cases res with
  | error er => exact hx pins σ H1 s1 er s2 J hq2
  | ok fl =>
    cases fl with
    | ret u => exact J.after hq2
    | next => exact hq2.elim
    | brk => exact hq2.elim
    | cont => exact hq2.elim
/-! ### repr -/
/-- data whose text is asked: what Dp tells, and the empty dict -/
inductive Dd (K : PySem.W.Frag) (H : Hp) : V → PyData → Prop
  | dp {v : V} {d : PyData} : Dp K H v d → SeqAt.shaped d = true → Dd K H v d
  | emp {a : Addr} : H a = some (.dK []) → Dd K H (.ref a) (.dict [])
  | kv {a : Addr} {ps : List (Int × Int)} : H a = some (.dK (kvI ps)) → Dd K H (.ref a) (.dict (ps.map fun p => (.int p.1, .int p.2)))
def Shows (d : PyData) : Prop := d.showable = true ∧ d.shown.length ≤ sizeLine ∧ PyData.strOk d.shown = true
theorem reads_kv {P : Program} {w : World} {h : Heap} : ∀ {es : List DictEntry} {vs : List (Key × Value)} {kvs : List (Key × V)} {ps : List (Int × Int)}, Pairs (mixKind P w) es vs → KV kvs vs → kvs = kvI ps →
    ReadsAll h (es.map (·.key)) ((ps.map fun p => ((.int p.1, .int p.2) : PyData × PyData)).map (·.1)) [] ∧ ReadsAll h (es.map (·.val)) ((ps.map fun p => ((.int p.1, .int p.2) : PyData × PyData)).map (·.2)) []
  | _, _, _, [], .nil, .nil, _ => ⟨.nil, .nil⟩
  | _, _, _, _ :: _, .nil, .nil, hk => by cases hk
  | _, _, _, [], .cons .., .cons .., hk => by cases hk
  | e :: _, _, _, p :: ps, .cons h1 h2 t, .cons r1 r2, hk => by
    cases hk
    obtain ⟨i1, i2⟩ := reads_kv (h := h) t r2 rfl
    obtain ⟨r1, r3⟩ := r1
    rcases keyIs_shape (show keyIs _ _ = true from h1) with ⟨i, tk, ek, ev⟩ | ⟨z, tk, ek, ev⟩
    · rw [← r1] at ek
      cases ek
      obtain ⟨t2, e2⟩ : ∃ t2, e.val = .int p.2 t2 := by
        rw [h2]
        exact r3
      refine ⟨?_, ?_⟩
      · show ReadsAll h (e.key :: _) (.int p.1 :: _) []
        rw [ev]
        exact .cons (as := []) (.int _ _) i1
      · show ReadsAll h (e.val :: _) (.int p.2 :: _) []
        rw [e2]
        exact .cons (as := []) (.int _ _) i2
    · rw [← r1] at ek
      cases ek
/-- repr(x), no repr under way -/
theorem call_reprD (gd : X.A.guards = some []) (hu : X.A.units + 70 < cLine) : CallR X (.builtin "repr") (fun xs H Q => ∃ v d, Dd X.K H v d ∧ Shows d ∧ xs = [v] ∧ Q (.str d.shown) H) := by
  intro pins s σ H xs us Q I r hq
  obtain ⟨v, d, hd, ⟨hs, hz, _⟩, rfl, q⟩ := hq
  obtain ⟨u, rfl, ru⟩ := vals1 r
  cases hd with
  | dp hd sh =>
    obtain ⟨as, rd⟩ := hd.reads I d _ u ru
    have lay := SeqAt.canLay_of_shaped sh
    have dep : d.depth ≤ 64 := by
      unfold SeqAt.shaped at sh
      rw [Bool.and_eq_true, decide_eq_true_eq] at sh
      exact sh.2
    cases rd with
    | none => exact PySem.P.repr_of_none ⟨.str _, H, I.tok _, ⟨_, rfl⟩, q⟩
    | bool b => exact PySem.P.repr_of_bool ⟨.str _, H, I.tok _, ⟨_, rfl⟩, q⟩
    | int i tk => exact PySem.P.repr_of_int (of_decide_eq_true hs) ⟨.str _, H, I.tok _, ⟨_, rfl⟩, q⟩
    | str y tk => exact PySem.P.repr_of_str ⟨.str _, H, I.tok _, ⟨_, rfl⟩, q⟩ hz
    | list g1 g2 g3 g4 =>
      refine PySem.repr_of_reads' (.list g1 g2 g3 g4) hs (PyData.noDict_hsm (PyData.hasDict_of_canLay _ lay)) gd (by omega) (fun _ _ zz => zz) (fun h' u' tk kp => ?_) hz
      exact ⟨.str _, H, I.kept (t' := tk) kp, ⟨_, rfl⟩, q⟩
    | tuple g1 g2 g3 g4 =>
      refine PySem.repr_of_reads' (.tuple g1 g2 g3 g4) hs (PyData.noDict_hsm (PyData.hasDict_of_canLay _ lay)) gd (by omega) (fun _ _ zz => zz) (fun h' u' tk kp => ?_) hz
      exact ⟨.str _, H, I.kept (t' := tk) kp, ⟨_, rfl⟩, q⟩
    | dict g1 g2 g3 g4 g5 => cases hd
  | emp ha =>
    cases ru
    obtain ⟨_, hm, vs, rel, o, es, ep, ho, hc, hdat, hks, hps, hnd⟩ := dk_of I.hok ha
    cases rel
    have e0 : es.toList = [] := List.length_eq_zero_iff.mp hps.length
    refine PySem.repr_of_reads' (d := .dict []) (.dict ho hc.1 hdat (by rw [e0]; exact .nil) (by rw [e0]; exact .nil)) hs (fun _ zz => ?_) gd (by show X.A.units + ((PyData.depthKv [] + 1) + 1) < cLine; rw [PyData.depthKv]; omega) (fun _ _ zz => zz) (fun h' u' tk kp => ?_) hz
    · have ne : _ ≠ sysModules := beq_eq_false_iff_ne.mp hm
      simp at zz
      exact ne zz.symm
    · exact ⟨.str _, H, I.kept (t' := tk) kp, ⟨_, rfl⟩, q⟩
  | kv ha =>
    cases ru
    obtain ⟨_, hm, vs, rel, o, es, ep, ho, hc, hdat, hks, hps, hnd⟩ := dk_of I.hok ha
    obtain ⟨k1, k2⟩ := reads_kv (h := s.heap) hps rel rfl
    refine PySem.repr_of_reads' (.dict ho hc.1 hdat k1 k2) hs (fun _ zz => ?_) gd (by
      have : ∀ ps : List (Int × Int), PyData.depthKv (ps.map fun p => ((.int p.1, .int p.2) : PyData × PyData)) ≤ 1 := fun ps => by
        induction ps with
        | nil => simp [PyData.depthKv]
        | cons p ps ih =>
          rw [List.map_cons, PyData.depthKv]
          simp only [PyData.depth]
          omega
      rw [PyData.depth]
      have := this ‹_›
      omega) (fun _ _ zz => zz) (fun h' u' tk kp => ?_) hz
    · have ne : _ ≠ sysModules := beq_eq_false_iff_ne.mp hm
      simp at zz
      exact ne zz.symm
    · exact ⟨.str _, H, I.kept (t' := tk) kp, ⟨_, rfl⟩, q⟩
end
end Lw
/-! The end of a law whose promise knows that no repr is under way (FnG), with the tables of the lambdas' makers. -/
namespace Lw
open PySem PySem.Spec PyProof.Rows L2 Evl LamX
/-- a list of ints of this kind as an object -/
abbrev scriptO (us : List Value) : Obj := { cls := .type "list", data := .seq us.toArray }
abbrev noCodes : Obj := { cls := .none, data := .fields #[] }
section
variable {P : Program} {w : World} {K : PySem.W.Frag} {mg mb : Str → Option Value} {CX : CXT} {k : Nat} {fa a : Addr} {cs : List (Addr × Addr)} {fd : FuncData} {x : Str} {sp : Sp} {st : Shared} {us : List Value} {ns : List Int}
/-- what is tracked at the start: the tables, and the script where the written part does not hold it -/
def startH (K : PySem.W.Frag) (ts : List Addr) (a : Addr) (us : List Value) (ns : List Int) : Hp := fun b =>
  if b ∈ ts then some (.tbl #[]) else if b = a ∧ (K.lookup a).isNone = true then some (.frz (scriptO us) (.lst (ns.map V.int))) else none
theorem startH_t {ts : List Addr} {b : Addr} (m : b ∈ ts) : startH K ts a us ns b = some (.tbl #[]) := if_pos m
theorem startH_inv {ts : List Addr} {b : Addr} {u : HO} (e : startH K ts a us ns b = some u) : (b ∈ ts ∧ u = .tbl #[]) ∨ (b ∉ ts ∧ b = a ∧ K.lookup a = none ∧ u = .frz (scriptO us) (.lst (ns.map V.int))) := by
  unfold startH at e
  by_cases m : b ∈ ts
  · rw [if_pos m] at e
    exact .inl ⟨m, (Option.some.inj e).symm⟩
  · rw [if_neg m] at e
    by_cases c : b = a ∧ (K.lookup a).isNone = true
    · rw [if_pos c] at e
      exact .inr ⟨m, c.1, Option.isNone_iff_eq_none.mp c.2, (Option.some.inj e).symm⟩
    · rw [if_neg c] at e
      cases e
theorem startH_not {ts : List Addr} {b : Addr} (h1 : b ∉ ts) (h2 : b = a → K.lookup a ≠ none) : startH K ts a us ns b = none := by
  cases e : startH K ts a us ns b with
  | none => rfl
  | some u =>
    rcases startH_inv e with ⟨m, _⟩ | ⟨_, e1, e2, _⟩
    · exact absurd m h1
    · exact absurd e2 (h2 e1)
theorem law_gd (KX : K.In st.heap) (hns : st.heap.Ns mainGlobals mg) (hb : st.heap.Ns builtinsNs mb) (hbb : ∀ y : Str, y ≠ "__name__" → mb y = bootBuiltins y) (hlim : st.heap.NoLimit) (hg : st.gens = #[])
    (hT : ∀ p ∈ cs, st.heap.get? p.2 = some noCodes) (nT : ∀ p ∈ cs, K.lookup p.2 = none) (C : ∀ p ∈ cs, PySem.W.CodeHd st.heap p.1 p.2)
    (hbm : ∃ (bm : Addr) (ob : Obj), mg "__builtins__" = some (.ref bm) ∧ bm ≠ builtinsNs ∧ st.heap.get? bm = some ob ∧ ob.cls = .type "module" ∧ ob.dict = some builtinsNs ∧ ob.data = .plain)
    (ha : st.heap.get? a = some (scriptO us)) (hi : IntsAre us ns) (hl : ns.length ≤ sizeLine) (room : Room k callerA)
    (F : ∀ base : Heap, K.In base → base.Ns mainGlobals mg → (∀ p ∈ cs, TabB base mg p.1 p.2) → FnG P w K mg base CX k fa fd [x] sp) (hbind : ∀ (s : Shared) (u : Value), BindsTo s fd ⟨[u], []⟩ [(x, u)])
    (hsp : ∀ H : Hp, (∀ p ∈ cs, H p.2 = some (.tbl #[])) → SqL K H a (ns.map V.int) → sp [.ref a] H (fun v _ => v = .bl true) fun _ _ _ => False)
    (hCX : ∀ H e s', CX [] H st (fun _ _ _ => False) e s' → False) :
    codeAny (model P w) callerA (.call (.ref fa) ⟨[.ref a], []⟩) (fun r z => r = .ok (.ret (.bool true)) ∧ OldK st.heap z.heap ∧ z.os = st.os ∧ AllBare z.gens) st := by
  obtain ⟨ts, ets⟩ : ∃ ts : List Addr, ts = cs.map (·.2) := ⟨_, rfl⟩
  have inT : ∀ p ∈ cs, p.2 ∈ ts := fun p m => by rw [ets]; exact List.mem_map.mpr ⟨p, m, rfl⟩
  have ofT : ∀ b ∈ ts, ∃ p ∈ cs, p.2 = b := fun b m => by
    rw [ets] at m
    obtain ⟨p, q, e⟩ := List.mem_map.mp m
    exact ⟨p, q, e⟩
  have atT : ∀ b ∈ ts, st.heap.get? b = some noCodes := fun b m => by
    obtain ⟨p, q, e⟩ := ofT b m
    rw [← e]
    exact hT p q
  have aT : a ∉ ts := fun m => by
    have q := atT a m
    rw [ha] at q
    have q' := congrArg Obj.cls (Option.some.inj q)
    cases q'
  obtain ⟨H, eH⟩ : ∃ H : Hp, H = startH K ts a us ns := ⟨_, rfl⟩
  have inv : ∀ {b u}, H b = some u → (b ∈ ts ∧ u = .tbl #[]) ∨ (b ∉ ts ∧ b = a ∧ K.lookup a = none ∧ u = .frz (scriptO us) (.lst (ns.map V.int))) := fun {b u} e => startH_inv (by rw [eH] at e; exact e)
  have tab : ∀ b ∈ ts, H b = some (.tbl #[]) := fun b m => by rw [eH]; exact startH_t m
  have lenU : us.length = ns.length := hi.length
  have rel := vals_ints hi
  have free : ∀ {b : Addr} {o : Obj}, st.heap.get? b = some o → o.cls ≠ .type "list" → o.cls ≠ .none → H b = none := fun {b o} e n1 n2 => by
    cases q : H b with
    | none => rfl
    | some u =>
      rcases inv q with ⟨m, _⟩ | ⟨_, e1, _, _⟩
      · rw [atT b m] at e
        cases e
        exact absurd rfl n2
      · rw [e1, ha] at e
        cases e
        exact absurd rfl n1
  have freeD : ∀ {b : Addr} {o : Obj}, st.heap.get? b = some o → (∀ zs n, o.data ≠ .seq zs n) → o.data ≠ .fields #[] → H b = none := fun {b o} e n1 n2 => by
    cases q : H b with
    | none => rfl
    | some u =>
      rcases inv q with ⟨m, _⟩ | ⟨_, e1, _, _⟩
      · rw [atT b m] at e
        cases e
        exact absurd rfl n2
      · rw [e1, ha] at e
        cases e
        exact absurd rfl (n1 _ _)
  have up : ∀ {b : Addr} {o : Obj}, st.heap.get? b = some o → H b = none → (hidT st.heap H).get? b = some o := fun e n => hidT_get e n
  have dict : ∀ {b : Addr} {m : Str → Option Value}, st.heap.Ns b m → (hidT st.heap H).Ns b m := fun {b m} ⟨o, es, ep, e, d, r⟩ =>
    ⟨o, es, ep, up e (freeD e (fun zs n z => by rw [d] at z; cases z) fun z => by rw [d] at z; cases z), d, r⟩
  have kin : K.In (hidT st.heap H) := fun b o e => up (KX b o e) (by
    cases q : H b with
    | none => rfl
    | some u =>
      rcases inv q with ⟨m, _⟩ | ⟨_, e1, e2, _⟩
      · obtain ⟨p, pm, ep⟩ := ofT b m
        rw [← ep, nT p pm] at e
        cases e
      · rw [e1, e2] at e
        cases e)
  have mod : L2.Mod K mg (hidT st.heap H) := ⟨kin, dict hns, ⟨mb, dict hb, hbb⟩, let ⟨mc, l1, l2⟩ := hlim; ⟨mc, dict l1, l2⟩⟩
  have hok : HOk P w H st.heap := fun b u e => by
    rcases inv e with ⟨m, rfl⟩ | ⟨_, rfl, _, rfl⟩
    · exact atT b m
    · exact ⟨ha, by rw [List.length_map]; exact hl, us, _, rel, ha⟩
  have seq : SqL K H a (ns.map V.int) := by
    cases hk : K.lookup a with
    | some o =>
      have e := KX a o hk
      rw [ha] at e
      cases e
      exact .inr ⟨_, us.toArray, _, hk, rfl, rfl, rfl, by rw [List.size_toArray, lenU]; exact hl, by simpa using rel⟩
    | none => exact .inl (.inr ⟨scriptO us, by rw [eH]; unfold startH; rw [if_neg aT, if_pos ⟨rfl, by rw [hk]; rfl⟩]⟩)
  have tabs : ∀ p ∈ cs, TabB (hidT st.heap H) mg p.1 p.2 := fun p pm => by
    have hTp := hT p pm
    refine ⟨?_, ?_, fun z => ?_⟩
    · obtain ⟨o, vs, f1, f2, f3, f4, f5, f6, f7, e1, r1, r2, r3, rest⟩ := C p pm
      exact ⟨o, vs, f1, f2, f3, f4, f5, f6, f7, up e1 (free e1 (by rw [r1]; simp) (by rw [r1]; simp)), r1, r2, r3, rest⟩
    · obtain ⟨bm, ob, b1, b2, b3, b4, b5, b6⟩ := hbm
      refine ⟨bm, ob, b1, b2, fun z => ?_, fun z => ?_, up b3 (free b3 (by rw [b4]; simp) (by rw [b4]; simp)), b4, b5, b6⟩
      · obtain ⟨o, es, ep, e, hd, _⟩ := hns
        rw [z, e] at b3
        cases b3
        rw [hd] at b6
        cases b6
      · rw [z, hTp] at b3
        cases b3
        cases b6
    · obtain ⟨o, es, ep, e, hd, _⟩ := hns
      rw [z, hTp] at e
      cases e
      cases hd
  have env : Env0 P w K mg (hidT st.heap H) callerA [] st H := ⟨rfl, mod, fun b o e => of_hidT e, Nat.le_of_eq (hidT_size _ _), trivial, fun b m => (List.not_mem_nil m).elim, hok, .of_eq hg⟩
  refine codeAny_mono ((F _ kin (dict hns) tabs).run callerA [] st H ⟨[.ref a], []⟩ [.ref a] [.ref a] _ _ rfl room env (hbind st (.ref a)) (.cons rfl .nil) (hsp H (fun p pm => tab _ (inT p pm)) seq)) fun res z hz => ?_
  cases res with
  | error er => exact (hCX H er z hz).elim
  | ok fl =>
    cases fl with
    | next => exact hz.elim
    | brk => exact hz.elim
    | cont => exact hz.elim
    | ret u =>
      obtain ⟨v, H', o1, o2, un, hok', ru, q⟩ := hz
      obtain rfl : v = .bl true := q
      obtain rfl : u = Value.bool true := ru
      have held : ∀ b o, b ∉ ts → st.heap.get? b = some o → z.heap.get? b = some o := fun b o n e => by
        cases q : H b with
        | none => exact un.keep b o e q (fun m => (List.not_mem_nil m).elim) (fun m => (List.not_mem_nil m).elim)
        | some u =>
          rcases inv q with ⟨m, _⟩ | ⟨_, e1, e2, rfl⟩
          · exact absurd m n
          · have e3 := (hok' b _ (un.frzs b _ _ q)).1
            rw [e1, ha] at e
            cases e
            rw [e1] at e3 ⊢
            exact e3
      have more : ∀ b ∈ ts, ∃ zs : Array Value, z.heap.get? b = some { cls := .none, data := .fields zs } := fun b m => by
        obtain ⟨zs, e⟩ := un.tbls b #[] (tab b m)
        exact ⟨_, hok' b _ e⟩
      refine ⟨rfl, ⟨fun b o e => ?_, fun b o e => ?_⟩, o1, o2⟩
      · by_cases m : b ∈ ts
        · obtain ⟨p, pm, rfl⟩ := ofT b m
          obtain ⟨zs, e2⟩ := more _ m
          rw [hT p pm] at e
          cases e
          exact .inr (.inl ⟨((C p pm).tab (hT p pm)).isCodeTable, rfl, #[], zs, rfl, by rw [Array.empty_append]; exact e2⟩)
        · exact .inl (held b o m e)
      · by_cases m : b ∈ ts
        · obtain ⟨zs, e2⟩ := more b m
          exact ⟨_, e2⟩
        · exact ⟨o, held b o m e⟩
end
/-- the law's promise, at the head's heap h -/
def LawG (l : PySem.W.OpenLaw) (w : World) (K : PySem.W.Frag) (CX : CXT) (k n : Nat) (x : Str) (mg : Str → Option Value) (fa : Addr) (h : Heap) : Prop :=
  ∃ (fd : FuncData) (cs : List (Addr × Addr)) (sp : Sp), (∀ p ∈ cs, h.get? p.2 = some noCodes) ∧ (∀ p ∈ cs, K.lookup p.2 = none) ∧ (∀ p ∈ cs, PySem.W.CodeHd h p.1 p.2) ∧ (∀ (s : Shared) (u : Value), BindsTo s fd ⟨[u], []⟩ [(x, u)]) ∧
    (∀ (H : Hp) (a : Addr) (ns : List Int), ns.length ≤ n → (∀ p ∈ cs, H p.2 = some (.tbl #[])) → SqL K H a (ns.map V.int) → sp [.ref a] H (fun v _ => v = .bl true) fun _ _ _ => False) ∧
    ∀ base : Heap, K.In base → base.Ns mainGlobals mg → (∀ p ∈ cs, TabB base mg p.1 p.2) → FnG l.prog w K mg base CX k fa fd [x] sp
theorem walk_gd {l : PySem.W.OpenLaw} {n k : Nat} {q : Program} {lo : List Str} {XQ : (Str → Option Value) → Heap → Prop} {YQ : World → Heap → Prop} {d : DefRec} {K : Params → PySem.W.Frag} {CX : World → CXT} {x : Str}
    (m1 : l.most = some n) (m2 : n ≤ sizeLine) (df : d.params.defaults = []) (room : Room k callerA) (hY : ∀ (w : World) (h : Heap), YQ w h → (K w.params).In h)
    (F : ∀ (w : World) (mg : Str → Option Value) (fa : Addr) (h : Heap), YQ w h → (K w.params).In h → h.Ns mainGlobals mg → mg d.name = some (.ref fa) → LawG l w (K w.params) (CX w) k n x mg fa h)
    (hCX : ∀ (w : World) (H : Hp) (s : Shared) (e : Value) (s' : Shared), CX w [] H s (fun _ _ _ => False) e s' → False) : PySem.W.WalkO q lo XQ YQ l.row.toRowW d [] (fun f vs => PySem.call f vs) := by
  refine Att.attach_callB m1 df fun w s₀ s₁ mg mb fa o pm cd doc a vs ns G Y ho hd hcd hmg obj itsI len bits gens => ?_
  have KX := hY w _ Y
  obtain ⟨fd, cs, sp, t1, t2, t3, hb, hs, hF⟩ := F w mg fa _ Y KX G.T.g hmg
  exact law_gd KX G.T.g G.T.b G.T.builtins G.T.nolimit gens t1 t2 t3 G.T.bmain obj itsI (Nat.le_trans len m2) room hF hb (fun H c S => hs H a ns len c S) fun H e z => hCX w H s₁ e z
/-! ### defs that make lambdas -/
/-- a def of the text, its code object at c -/
structure DefC (K : PySem.W.Frag) (mg : Str → Option Value) (x : Str) (st : Stmt) (c : Addr) : Prop where
  ex : ∃ (f : Addr) (oc : Value) (od an : Option Addr) (osl : Array (Option Value)) (kV doc pm ct : Value), K.lookup f = some ⟨oc, od, .func (PySem.W.fnOf x x (defArgs st) (defBody st) (defScope st) .none kV doc pm an (.ref c) ct), osl⟩ ∧
    PySem.W.codeIn K (.ref c) x = true ∧ PySem.W.keepIn K (.ref f) = true ∧ mg x = some (.ref f)
theorem defC_mk {K : PySem.W.Frag} {mg : Str → Option Value} {x : Str} {st : Stmt} {h : Heap} {f c : Addr} {oc : Value} {od an : Option Addr} {osl : Array (Option Value)} {kV doc pm ct : Value} (X : K.In h) (G : h.Ns mainGlobals mg)
    (a : PySem.W.nsIn K mainGlobals x = some (some (.ref f))) (l : K.lookup f = some ⟨oc, od, .func (PySem.W.fnOf x x (defArgs st) (defBody st) (defScope st) .none kV doc pm an (.ref c) ct), osl⟩) (ci : PySem.W.codeIn K (.ref c) x = true)
    (kp : PySem.W.keepIn K (.ref f) = true) : DefC K mg x st c := ⟨f, oc, od, an, osl, kV, doc, pm, ct, l, ci, kp, PySem.W.mg_of X G a⟩
theorem clC_of {P : Program} {w : World} {K : PySem.W.Frag} {mg : Str → Option Value} {base : Heap} {k : Nat} {x : Str} {st : Stmt} {ps N : List Str} {sp : Sp} {c : Addr} (D : DefC K mg x st c) (S : FnScope N ps (defScope st)) (len : ∀ vs H Q E, sp vs H Q E → vs.length = ps.length)
    (hbody : ∀ (f : Addr) (A : Around) (outer : List Env) (s : Shared) (H : Hp) (vs : List V) (Q : VK) (E : XK), A.guards = some [] → Room k (A.deeper (envOfC x (defScope st) s.heap.objs.size f (.ref c))) → sp vs H Q E →
      ∃ t, PSs (cxOf CX0 P w K mg base N x (defScope st) f (.ref c) A outer s H E).nox (defBody st) t ∧ t { nx := fun _ H' => Q .non H', rt := Q } (start N vs) H) : ClG P w K mg base CX0 (k + 1) x st ps sp := by
  obtain ⟨f, oc, od, an, osl, kV, doc, pm, ct, lk, hcd, kp, m⟩ := D.ex
  refine ⟨f, _, fun_mk lk hcd kp, ⟨len, fun A outer s H args us vs Q E gd hr e0 hb r hs => run_ofS lk hcd S hr e0 hb r (len _ _ _ _ hs) fun hr' => ?_⟩, m⟩
  obtain ⟨t, h, q⟩ := hbody f A outer s H vs Q E gd hr' hs
  exact ⟨t, h.nox, q⟩
theorem lawG_fd {K : PySem.W.Frag} {mg : Str → Option Value} {x p : Str} {st : Stmt} {fa : Addr} (D : DefAt K mg x st) (b : Bnd x st [p]) (hfa : mg x = some (.ref fa)) : ∃ fd, Fun K x x st fa fd ∧ ∀ (s : Shared) (u : Value), BindsTo s fd ⟨[u], []⟩ [(p, u)] := law_fd D b hfa
end Lw
/-! A def that is handed a lambda; what stays where tables of code objects grow. -/
namespace Lw
open PySem PySem.Spec PyProof.Rows L2 Evl LamX
theorem u70 {k : Nat} {A : Around} (hr : Room k A) : A.units + 70 < cLine := by
  have := hr.un
  omega
section
variable {X : Cx}
/-- x(lambda: body), x a def of the text with one parameter -/
theorem pe_lamc {TT : (XK → Hp → VK → Prop) → Hp → VK → Prop} {x a : Str} {st : Stmt} {c P : Addr} {k : Nat} {Ng : List Str} {params : Arguments} {body : Expr} {scope : Scope} {t : XK → TE} {p lpos pos : Pos} (D : DefAt X.K X.mg x st) (b : Bnd x st [a]) (hg : Gl X x)
    (Sg : FnScope Ng [a] (defScope st)) (hNg : Ng[0]? = some a) (hva : Vis (defScope st) a) (hG : ∀ g cdv, GivesTo X Ng x (defScope st) g cdv (defBody st) a (X.env.qual ++ "<lambda>") TT)
    (TB : TabB X.base X.mg c P) (hcode : X.env.code = .ref c) (hr : Room (k + 2) X.A) (L : LamS X.env.scope scope) (hdef : defaultsOf params X.env = ([], []))
    (hbind : ∀ (q : Str) (cl : List (Str × Addr)) (pm cv ctv : Value), bindArgs (PySem.W.kla_fn "<lambda>" q params body scope cl pm cv ctv) ⟨[], []⟩ = pure [])
    (hbody : ∀ (A : Around) (outer : List Env) (s : Shared) (H : Hp) (E : XK) (f c' : Addr), Room k (A.deeper (lamEnv X scope s.heap.objs.size f c')) → PE (lamCx X A outer s H E scope f c') body (t E))
    (d1 : (x == ("__debug__" : Str)) = false := by decide) (d2 : (a == ("__debug__" : Str)) = false := by decide) (d3 : (a == ("__classdict__" : Str)) = false := by decide) :
    PE X (.Call (.Name x p) [.Lambda params body scope lpos] [] pos) (tLam [(P, X.env.qual ++ "<lambda>")] TT t) := by
  obtain ⟨f, fd, F, m⟩ := D.ex
  have kp := F.kp
  have bs := F.binds b
  obtain ⟨oc, od, kV, doc, pm, an, cdv, ct, osl, rfl, lk, hcd⟩ := F.ex
  exact pe_lamcall hg m kp lk hcd bs Sg hNg hva (hG f cdv) TB hcode List.mem_cons_self (fun q hq _ => by
    obtain rfl : q = _ := by simpa using hq
    rfl) hr L hdef hbind hbody d1 d2 d3
end
/-! ### what stays, tables aside -/
theorem ExtN.ex {H H' : Hp} (e : Ex H H') : ExtN H H' := ExtN.of fun b o h => e b o h
section
variable {K : PySem.W.Frag} {H H' : Hp} {a : Addr} {v : V} {n : String}
theorem sqN_l {xs : List V} (e : ExtN H H') (h : SqL K H a xs) : SqL K H' a xs := by
  rcases h with (h | ⟨o, h⟩) | h
  · exact .inl (.inl (e _ _ h fun ps z => by cases z))
  · exact .inl (.inr ⟨o, e _ _ h fun ps z => by cases z⟩)
  · exact .inr h
theorem sqN_t {xs : List V} (e : ExtN H H') (h : SqT K H a xs) : SqT K H' a xs := by
  rcases h with (h | ⟨o, h⟩) | h
  · exact .inl (.inl (e _ _ h fun ps z => by cases z))
  · exact .inl (.inr ⟨o, e _ _ h fun ps z => by cases z⟩)
  · exact .inr h
theorem Pool.upN (e : ExtN H H') (h : Pool H a) : Pool H' a := e _ _ h fun ps z => by cases z
mutual
theorem dpN (e : ExtN H H') : ∀ {v : V} {d : PyData}, Dp K H v d → Dp K H' v d
  | _, _, .non => .non
  | _, _, .bl b => .bl b
  | _, _, .int i => .int i
  | _, _, .str y => .str y
  | _, _, .lst h t => .lst (sqN_l e h) (dpsN e t)
  | _, _, .tup h t => .tup (sqN_t e h) (dpsN e t)
theorem dpsN (e : ExtN H H') : ∀ {vs : List V} {ds : List PyData}, DpAll K H vs ds → DpAll K H' vs ds
  | _, _, .nil => .nil
  | _, _, .cons h t => .cons (dpN e h) (dpsN e t)
end
theorem Dd.upN {d : PyData} (e : ExtN H H') (h : Dd K H v d) : Dd K H' v d := by
  cases h with
  | dp h s => exact .dp (dpN e h) s
  | emp h => exact .emp (e _ _ h fun ps z => by cases z)
  | kv h => exact .kv (e _ _ h fun ps z => by cases z)
theorem Dd.up {d : PyData} (e : Ex H H') (h : Dd K H v d) : Dd K H' v d := h.upN (ExtN.ex e)
theorem Kd.upN (e : ExtN H H') (k : Kd H v n) : Kd H' v n := by
  cases k with
  | int i => exact .int i
  | bl b => exact .bl b
  | str s => exact .str s
  | non => exact .non
  | tup h => exact .tup (e _ _ h fun ps z => by cases z)
  | fz h => exact .fz (e _ _ h fun ps z => by cases z)
  | lst h => exact .lst (e _ _ h fun ps z => by cases z)
  | dK h => exact .dK (e _ _ h fun ps z => by cases z)
theorem Th.upN {b : Bool} (e : ExtN H H') (k : Th H v b) : Th H' v b := by
  cases k with
  | other k h => exact .other (k.upN e) h
  | tup h ks => exact .tup (e _ _ h fun ps z => by cases z) fun x hx => let ⟨n, k⟩ := ks x hx; ⟨n, k.upN e⟩
end
theorem extN_mut {H H' : Hp} {a : Addr} {o : HO} (e : ExtN H H') (n : H a = none) : ExtN H (upd H' a o) := fun b u h t => by
  rw [upd_ne (fun z => by rw [z, n] at h; cases h)]
  exact e b u h t
theorem tabs_mut {T : List (Addr × Str)} {H : Hp} {a : Addr} {xs ys : List V} (t : Tabs T H) (h : H a = some (.lst xs)) : Tabs T (upd H a (.lst ys)) := fun p hp => by
  obtain ⟨ps, h1, h2, h3⟩ := t p hp
  have ne : ∀ {b u}, H b = some u → u ≠ .lst xs → b ≠ a := fun {b u} q n z => by
    rw [z, h] at q
    exact n (Option.some.inj q).symm
  refine ⟨ps, by rw [upd_ne (ne h1 (by intro z; cases z))]; exact h1, h2, fun pos cv hc => ?_⟩
  obtain ⟨c, e1, e2⟩ := h3 pos cv hc
  exact ⟨c, e1, by rw [upd_ne (ne e2 (by unfold CodeO; intro z; cases z))]; exact e2⟩
section
variable {H1 : Hp} {D : Addr} {n : Nat} {g : TG} {tt : TT} {te : TE} {vs : List Nat} {σ : L2.St} {Qd : Hp → Prop}
/-- a list of truths, made over range(n), where tables may grow -/
theorem lcRT (T : List (Addr × Str)) (hD : H1 D = none) (hn : n ≤ 50000) (t0 : Tabs T H1)
    (hs : ∀ i, i < n → ∀ H, ExtN H1 H → Tabs T H → ∀ (Q1 : VK) (Q2 : Hp → Prop), (∀ H4, ExtN H H4 → Tabs T H4 → Q1 (.bl true) H4) → g (.int ((0 : Int) + i)) (wipe σ vs) H fun σ2 H2 => wipe σ2 vs = wipe σ vs ∧ tt σ2 H2 fun b H3 => if b = true then te σ2 H3 Q1 else Q2 H3)
    (hd : ∀ H', ExtN H1 H' → Tabs T H' → H' D = some (.lst ((List.replicate n true).map V.bl)) → Qd H') :
    ∃ W : Nat → Nat → Hp → Prop, (∃ m, W 0 m (upd H1 D (.lst []))) ∧ ∀ i m H, W i m H →
      ((Itr 0 n).stop i H ∧ Qd H) ∨ ((Itr 0 n).go i H ∧ ∃ Nx : Hp → Prop, (∀ H', Nx H' → ∃ m', m' < m ∧ W (i + 1) m' H') ∧ ∀ x H', (Itr 0 n).yld i H x H' → g x (wipe σ vs) H' fun σ2 H2 => wipe σ2 vs = wipe σ vs ∧ tt σ2 H2 fun b H3 =>
        if b = true then te σ2 H3 fun y H4 => ∃ acc, H4 D = some (.lst acc) ∧ acc.length < sizeLine ∧ Nx (upd H4 D (.lst (acc ++ [y]))) else Nx H3) := by
  refine lc_range (fun i H => ExtN H1 H ∧ Tabs T H ∧ H D = some (.lst ((List.replicate i true).map V.bl))) ⟨ExtN.ex (Ex.new hD), t0.ext (fun b o h => Ex.new hD b o h), upd_same⟩ (fun i H hi I => ?_) (fun H I => hd H I.1 I.2.1 I.2.2)
  obtain ⟨e, t, h⟩ := I
  refine hs i hi H e t _ _ fun H4 e4 t4 => ?_
  have h4 := e4 _ _ h (fun ps z => by cases z)
  refine ⟨_, h4, Nat.lt_of_lt_of_le (show _ < 60000 by rw [List.length_map, List.length_replicate]; omega) (Nat.le_trans (by decide) line_ge), extN_mut (e.trans e4) hD, tabs_mut t4 h4, ?_⟩
  rw [upd_same, List.replicate_succ', List.map_append]
  rfl
end
/-! ### classes of errors -/
/-- x is a class of errors that is caught by (A, B, C) -/
structure ErrAt (K : PySem.W.Frag) (mg : Str → Option Value) (x a b c : Str) : Prop where
  ex : ∃ C A B D : Addr, mg x = some (.ref C) ∧ mg a = some (.ref A) ∧ mg b = some (.ref B) ∧ mg c = some (.ref D) ∧ PySem.W.exmAny K (.ref C) [.ref A, .ref B, .ref D] = some true ∧ ExcK K C
theorem errAt_mk {K : PySem.W.Frag} {mg : Str → Option Value} {x a b c : Str} {h : Heap} {C A B D : Addr} (X : K.In h) (G : h.Ns mainGlobals mg) (n1 : PySem.W.nsIn K mainGlobals x = some (some (.ref C))) (n2 : PySem.W.nsIn K mainGlobals a = some (some (.ref A)))
    (n3 : PySem.W.nsIn K mainGlobals b = some (some (.ref B))) (n4 : PySem.W.nsIn K mainGlobals c = some (some (.ref D))) (e : PySem.W.exmAny K (.ref C) [.ref A, .ref B, .ref D] = some true)
    (ga : PySem.W.findIn K (.ref C) "__getattribute__" = some (some (.builtin "BaseException.__getattribute__"))) (gt : PySem.W.findIn K (.ref C) "__getattr__" = some none) (sb : PySem.W.subIn K (.ref C) (.type "BaseException") = some true)
    (hd : PySem.W.hasDictIn K C = true) (ca : PySem.W.findIn K (.ref C) "__class__" = some (some (.builtin "object.__class__"))) (cg : PySem.W.specialIn K (.builtin "object.__class__") "__get__" = some (some (.builtin "getset_descriptor.__get__")))
    (ct : PySem.W.takesIn K (.builtin "object.__class__") = some true) (mo : PySem.W.mroIn K C (.type "object") = some true) : ErrAt K mg x a b c :=
  ⟨C, A, B, D, PySem.W.mg_of X G n1, PySem.W.mg_of X G n2, PySem.W.mg_of X G n3, PySem.W.mg_of X G n4, e, ga, gt, sb, hd, ca, cg, ct, mo⟩
/-- isinstance of an x: of the own class y -/
structure AskC (K : PySem.W.Frag) (mg : Str → Option Value) (x y : Str) (b : Bool) : Prop where
  ex : ∃ C D : Addr, mg x = some (.ref C) ∧ mg y = some (.ref D) ∧ PySem.W.kitOne K (.ref C) (.ref D) = some b
theorem askC_mk {K : PySem.W.Frag} {mg : Str → Option Value} {x y : Str} {b : Bool} {h : Heap} {C D : Addr} (X : K.In h) (G : h.Ns mainGlobals mg) (n1 : PySem.W.nsIn K mainGlobals x = some (some (.ref C))) (n2 : PySem.W.nsIn K mainGlobals y = some (some (.ref D)))
    (e : PySem.W.kitOne K (.ref C) (.ref D) = some b) : AskC K mg x y b := ⟨C, D, PySem.W.mg_of X G n1, PySem.W.mg_of X G n2, e⟩
/-- of the built-in class y -/
structure AskT (K : PySem.W.Frag) (mg : Str → Option Value) (x : Str) (y : String) (b : Bool) : Prop where
  ex : ∃ C : Addr, mg x = some (.ref C) ∧ PySem.W.kitOne K (.ref C) (.type y) = some b
theorem askT_mk {K : PySem.W.Frag} {mg : Str → Option Value} {x : Str} {y : String} {b : Bool} {h : Heap} {C : Addr} (X : K.In h) (G : h.Ns mainGlobals mg) (n1 : PySem.W.nsIn K mainGlobals x = some (some (.ref C))) (e : PySem.W.kitOne K (.ref C) (.type y) = some b) :
    AskT K mg x y b := ⟨C, PySem.W.mg_of X G n1, e⟩
/-- the exception that a caught call let out: of the class at C, with this value -/
def Out (K : PySem.W.Frag) (C : Addr) (f : Str) (cls : Value) (d : Option Addr) (H : Hp) (dt : PyData) : Prop := ∃ dd v, cls = .ref C ∧ d = some dd ∧ H dd = some (.xd [(f, v)]) ∧ Dd K H v dt ∧ Shows dt
/-- _law_caught(..) of a call that raises an error of C: [tag, repr(its value)] -/
def TCaught (K : PySem.W.Frag) (C : Addr) (f tag : Str) : (XK → Hp → VK → Prop) → Hp → VK → Prop := fun tl H Q =>
  tl (fun cls d H' => ∃ dt, Out K C f cls d H' dt ∧ ∀ l H2, Ex H' H2 → H2 l = some (.lst [.str tag, .str dt.shown]) → Q (.ref l) H2) H (fun _ H' => [V.str "none", V.str ""].length ≤ sizeLine ∧ ∀ p, H' p = none → Q (.ref p) (upd H' p (.lst [.str "none", .str ""])))
end Lw
/-! Values whose repr is asked: atoms, lists and tuples of atoms, the empty dict. -/
namespace Lw
open PySem PySem.Spec PyProof.Rows L2 Evl LamX
inductive Atm : V → PyData → Prop
  | non : Atm .non .none
  | bl (b : Bool) : Atm (.bl b) (.bool b)
  | int (i : Int) : i.natAbs < 2 ^ 1000 → Atm (.int i) (.int i)
  | emp : Atm (.str "") (.str "")
/-- its text can be told -/
def Dsp (K : PySem.W.Frag) (H : Hp) (v : V) : Prop := ∃ d, Dd K H v d ∧ Shows d
/-! ### texts of valid signs -/
theorem ok_app (x y : Str) : PyData.strOk (x ++ y) = (PyData.strOk x && PyData.strOk y) := by
  show (x.cps ++ y.cps).all _ = (x.cps.all _ && y.cps.all _)
  rw [Array.all_append]
theorem ok_of (s : String) : PyData.strOk (Str.ofString s) = true := by
  rw [Str.ofString_eq_toList]
  show ((s.toList.map Char.toNat).toArray).all _ = true
  rw [List.all_toArray, List.all_eq_true]
  intro n hn
  obtain ⟨c, _, rfl⟩ := List.mem_map.mp hn
  have := c.valid
  refine decide_eq_true ?_
  show c.val.toNat < 0x110000
  rcases this with h | h
  · have : c.val.toNat < 55296 := h
    omega
  · exact h.2
theorem ok_text : ∀ {ts : List Str} {k : Nat} {acc : Str}, PyData.strOk acc = true → (∀ t ∈ ts, PyData.strOk t = true) → PyData.strOk (textFrom k acc ts) = true
  | [], _, _, h, _ => h
  | t :: ts, k, acc, h, ht => by
    refine ok_text (ts := ts) ?_ fun u m => ht u (List.mem_cons_of_mem _ m)
    rw [ok_app, ok_app, h, ht t List.mem_cons_self]
    simp only [Bool.true_and, Bool.and_true]
    split <;> exact ok_of _
theorem ok_join {sep : Str} (hs : PyData.strOk sep = true) : ∀ {ts : List Str}, (∀ t ∈ ts, PyData.strOk t = true) → PyData.strOk (Str.join sep ts) = true
  | [], _ => by
    show PyData.strOk Str.empty = true
    decide +kernel
  | [t], h => h t List.mem_cons_self
  | t :: u :: ts, h => by
    rw [Str.join, ok_app, ok_app, h t List.mem_cons_self, hs, ok_join hs fun x m => h x (List.mem_cons_of_mem _ m)]
    all_goals first | rfl | (intro z; cases z)
section
variable {K : PySem.W.Frag} {H H' : Hp} {a : Addr} {v : V} {d : PyData} {vs : List V} {ds : List PyData}
theorem Atm.dp (h : Atm v d) : Dp K H v d := by cases h <;> constructor
theorem Atm.kd (h : Atm v d) : ∃ n, Kd H v n ∧ n ≠ "tuple" := by
  cases h with
  | non => exact ⟨_, .non, by decide⟩
  | bl b => exact ⟨_, .bl b, by decide⟩
  | int i _ => exact ⟨_, .int i, by decide⟩
  | emp => exact ⟨_, .str "", by decide⟩
theorem log_small {n : Nat} (h : n < 2 ^ 1000) : n.log2 < 1000 := by
  by_cases z : n = 0
  · subst z; decide
  · exact (Nat.log2_lt z).mpr h
theorem Atm.show (h : Atm v d) : d.showable = true ∧ d.shown.length ≤ 2000 ∧ PyData.strOk d.shown = true := by
  cases h with
  | non => exact ⟨rfl, by decide, ok_of _⟩
  | bl b => cases b <;> exact ⟨rfl, by decide, ok_of _⟩
  | int i hi =>
    have l := log_small hi
    refine ⟨decide_eq_true (by omega), ?_, ok_of _⟩
    have := int_text_length_le (k := 1000) (by decide) l
    show (Str.ofString (toString i)).length ≤ 2000
    rw [PySem.ofString_length]
    omega
  | emp => exact ⟨rfl, by decide, by decide +kernel⟩
theorem Atm.lay (h : Atm v d) : PyData.canLay0 d = true ∧ d.depth = 0 := by
  cases h with
  | emp => exact ⟨by rw [PyData.canLay0]; exact ok_of _, by simp [PyData.depth]⟩
  | _ => exact ⟨by simp [PyData.canLay0], by simp [PyData.depth]⟩
theorem atms_dp (h : Paired Atm vs ds) : DpAll K H vs ds := by
  induction h with
  | nil => exact .nil
  | cons h t ih => exact .cons h.dp ih
theorem atms_lay (h : Paired Atm vs ds) : PyData.canLayAll0 ds = true ∧ PyData.depthAll ds = 0 := by
  induction h with
  | nil => exact ⟨by simp [PyData.canLayAll0], by simp [PyData.depthAll]⟩
  | cons h t ih => exact ⟨by simp [PyData.canLayAll0, h.lay.1, ih.1], by simp [PyData.depthAll, h.lay.2, ih.2]⟩
theorem atms_show (h : Paired Atm vs ds) : PyData.showableAll ds = true ∧ ((PyData.shownAll ds).map (·.length)).sum ≤ 2000 * ds.length ∧ (PyData.shownAll ds).length = ds.length ∧ ∀ t ∈ PyData.shownAll ds, PyData.strOk t = true := by
  induction h with
  | nil => exact ⟨rfl, by simp [PyData.shownAll], rfl, fun t m => by cases m⟩
  | cons h t ih =>
    obtain ⟨i1, i2, i3, i4⟩ := ih
    obtain ⟨h1, h2, h3⟩ := h.show
    refine ⟨by rw [PyData.showableAll, h1, i1]; rfl, ?_, by rw [PyData.shownAll, List.length_cons, i3, List.length_cons], fun t m => ?_⟩
    · rw [PyData.shownAll, List.map_cons, List.sum_cons, List.length_cons]
      omega
    · rw [PyData.shownAll] at m
      rcases List.mem_cons.mp m with rfl | m
      · exact h3
      · exact i4 t m
theorem Atm.dsp (h : Atm v d) : Dsp K H v := by
  obtain ⟨s1, s2, s3⟩ := h.show
  refine ⟨d, .dp h.dp ?_, s1, Nat.le_trans s2 (by decide), s3⟩
  unfold SeqAt.shaped
  rw [h.lay.1, h.lay.2]
  rfl
theorem dd_l (h : SqL K H a vs) (p : Paired Atm vs ds) (hl : vs.length ≤ 1000) : Dd K H (.ref a) (.list ds) ∧ Shows (.list ds) := by
  obtain ⟨s1, s2, s3, s4⟩ := atms_show p
  have ll := Paired.length p
  refine ⟨.dp (.lst h (atms_dp p)) ?_, s1, ?_, ?_⟩
  · unfold SeqAt.shaped
    simp [PyData.canLay0, PyData.depth, (atms_lay p).1, (atms_lay p).2]
  · have := listText_len_le (PyData.shownAll ds)
    show (listText (PyData.shownAll ds)).length ≤ sizeLine
    rw [sizeLine_eq]
    omega
  · show PyData.strOk (textFrom 0 "[" (PyData.shownAll ds) ++ "]") = true
    rw [ok_app, ok_text (ok_of _) s4]
    exact ok_of _
theorem dsp_l (h : SqL K H a vs) (p : Paired Atm vs ds) (hl : vs.length ≤ 1000) : Dsp K H (.ref a) := ⟨_, dd_l h p hl⟩
theorem dsp_t (h : SqT K H a vs) (p : Paired Atm vs ds) (hl : vs.length ≤ 1000) : Dsp K H (.ref a) := by
  obtain ⟨s1, s2, s3, s4⟩ := atms_show p
  have ll := Paired.length p
  refine ⟨.tuple ds, .dp (.tup h (atms_dp p)) ?_, s1, ?_, ?_⟩
  · unfold SeqAt.shaped
    simp [PyData.canLay0, PyData.depth, (atms_lay p).1, (atms_lay p).2]
  · have := tupleText_len_le (PyData.shownAll ds)
    show (tupleText (PyData.shownAll ds)).length ≤ sizeLine
    rw [sizeLine_eq]
    omega
  · show PyData.strOk (("(" : Str) ++ Str.join ", " (PyData.shownAll ds) ++ _) = true
    rw [ok_app, ok_app, ok_join (ok_of _) s4]
    have o1 : PyData.strOk ("(" : Str) = true := ok_of _
    rw [o1]
    simp only [Bool.true_and]
    split <;> exact ok_of _
theorem dsp_d (h : H a = some (.dK [])) : Dsp K H (.ref a) := ⟨_, .emp h, rfl, by decide, by decide +kernel⟩
theorem Dsp.upN (e : ExtN H H') (h : Dsp K H v) : Dsp K H' v := let ⟨d, x, s⟩ := h; ⟨d, x.upN e, s⟩
theorem Dsp.up (e : Ex H H') (h : Dsp K H v) : Dsp K H' v := h.upN (ExtN.ex e)
theorem atms_kd (p : Paired Atm vs ds) : ∀ x ∈ vs, ∃ n, Kd H x n := by
  induction p with
  | nil => intro x m; cases m
  | cons h t ih =>
    intro x m
    rcases List.mem_cons.mp m with rfl | m
    · obtain ⟨n, k, _⟩ := h.kd (H := H)
      exact ⟨n, k⟩
    · exact ih x m
theorem atm_small {i : Int} (h0 : -100000000000000 ≤ i) (h1 : i ≤ 100000000000000) : Atm (.int i) (.int i) := .int i (Nat.lt_of_lt_of_le (show i.natAbs < 1000000000000000 by omega) (by decide))
/-- lists of lists of texts: equal -/
def rowD (t s : Str) : PyData := .list [.str t, .str s]
theorem dp_row {t s : Str} (h : H a = some (.lst [.str t, .str s])) : Dp K H (.ref a) (rowD t s) := .lst (SqL.of h) (.cons (.str _) (.cons (.str _) .nil))
theorem ne_row {b : Addr} {t s : Str} {Q : VK} (k1 : PyData.strOk t = true) (k2 : PyData.strOk s = true) (h : H a = some (.lst [.str t, .str s])) (h' : H b = some (.lst [.str t, .str s])) (q : Q (.bl false) H) : rNeD K (.ref a) (.ref b) H Q :=
  have sh : SeqAt.shaped (rowD t s) = true := by simp [rowD, SeqAt.shaped, PyData.canLay0, PyData.canLayAll0, PyData.depth, PyData.depthAll, k1, k2]
  ⟨_, _, dp_row h, dp_row h', sh, sh, by rw [SeqAt.eqv_refl _ (SeqAt.canLay_of_shaped sh)]; exact q⟩
theorem rows_lay (n : Nat) (t s : Str) (k1 : PyData.strOk t = true) (k2 : PyData.strOk s = true) : PyData.canLayAll0 (List.replicate n (rowD t s)) = true ∧ PyData.depthAll (List.replicate n (rowD t s)) ≤ 1 := by
  induction n with
  | zero => simp [PyData.canLayAll0, PyData.depthAll]
  | succ n ih =>
    rw [List.replicate_succ]
    exact ⟨by rw [PyData.canLayAll0, ih.1, Bool.and_true, rowD, PyData.canLay0]; simp [PyData.canLayAll0, PyData.canLay0, k1, k2], by rw [PyData.depthAll]; exact Nat.max_le.mpr ⟨by simp [rowD, PyData.depth, PyData.depthAll], ih.2⟩⟩
theorem dps_rows {t s : Str} : ∀ {as : List Addr}, (∀ b ∈ as, H b = some (.lst [.str t, .str s])) → DpAll K H (as.map V.ref) (List.replicate as.length (rowD t s))
  | [], _ => .nil
  | b :: as, h => .cons (dp_row (h b (by simp))) (dps_rows fun c m => h c (List.mem_cons_of_mem _ m))
theorem ne_rows {b : Addr} {t s : Str} {as bs : List Addr} {Q : VK} (k1 : PyData.strOk t = true) (k2 : PyData.strOk s = true) (h : H a = some (.lst (as.map V.ref))) (h' : H b = some (.lst (bs.map V.ref))) (l : as.length = bs.length) (ha : ∀ c ∈ as, H c = some (.lst [.str t, .str s])) (hb : ∀ c ∈ bs, H c = some (.lst [.str t, .str s]))
    (q : Q (.bl false) H) : rNeD K (.ref a) (.ref b) H Q := by
  have sh : SeqAt.shaped (.list (List.replicate as.length (rowD t s))) = true := by
    unfold SeqAt.shaped
    rw [PyData.canLay0, PyData.depth, (rows_lay _ t s k1 k2).1, decide_eq_true (by have := (rows_lay as.length t s k1 k2).2; omega)]
    rfl
  refine ⟨_, _, .lst (SqL.of h) (dps_rows ha), .lst (SqL.of h') (dps_rows hb), sh, by rw [← l]; exact sh, ?_⟩
  rw [← l, SeqAt.eqv_refl _ (SeqAt.canLay_of_shaped sh)]
  exact q
theorem rep3 {l : Addr} {xs : List V} {Q : VK} (h : H l = some (.lst xs)) (hl : xs.length ≤ 1000) (q : ∀ p, H p = none → Q (.ref p) (upd H p (.lst (xs ++ (xs ++ xs))))) : rRep (.ref l) (.int 3) H Q := by
  refine ⟨l, 3, xs, rfl, rfl, h, by decide, by decide, ?_, fun p n => ?_⟩
  · exact Nat.le_trans (by show xs.length * 3 ≤ 100000; omega) line_ge
  · have e : (List.replicate (3 : Int).toNat xs).flatten = xs ++ (xs ++ xs) := by
      show xs ++ (xs ++ (xs ++ [])) = _
      rw [List.append_nil]
    first
      | (rw [e]; exact q p n)
      | exact q p n
end
end Lw
/-! Data of some depth whose text can be told. -/
namespace Lw
open PySem PySem.Spec PyProof.Rows L2 Evl LamX
/-! ### data -/
def Nice (B D : Nat) (d : PyData) : Prop := d.showable = true ∧ d.shown.length ≤ B ∧ PyData.strOk d.shown = true ∧ PyData.canLay0 d = true ∧ d.depth ≤ D
section
variable {K : PySem.W.Frag} {H H' : Hp} {a b : Addr} {v : V} {d : PyData} {vs xs ys : List V} {ds : List PyData} {B D n : Nat}
theorem Atm.nice (h : Atm v d) : Nice 2000 0 d := ⟨h.show.1, h.show.2.1, h.show.2.2, h.lay.1, Nat.le_of_eq h.lay.2⟩
theorem Nice.mono {B' D' : Nat} (h : Nice B D d) (h1 : B ≤ B') (h2 : D ≤ D') : Nice B' D' d := ⟨h.1, Nat.le_trans h.2.1 h1, h.2.2.1, h.2.2.2.1, Nat.le_trans h.2.2.2.2 h2⟩
theorem nice_all (h : ∀ x ∈ ds, Nice B D x) : PyData.showableAll ds = true ∧ ((PyData.shownAll ds).map (·.length)).sum ≤ B * ds.length ∧ (PyData.shownAll ds).length = ds.length ∧ (∀ t ∈ PyData.shownAll ds, PyData.strOk t = true) ∧ PyData.canLayAll0 ds = true ∧ PyData.depthAll ds ≤ D := by
  induction ds with
  | nil => exact ⟨rfl, by simp [PyData.shownAll], rfl, (fun t m => by cases m), by simp [PyData.canLayAll0], by simp [PyData.depthAll]⟩
  | cons d ds ih =>
    obtain ⟨i1, i2, i3, i4, i5, i6⟩ := ih fun x m => h x (List.mem_cons_of_mem _ m)
    obtain ⟨h1, h2, h3, h4, h5⟩ := h d List.mem_cons_self
    refine ⟨by rw [PyData.showableAll, h1, i1]; rfl, ?_, by rw [PyData.shownAll, List.length_cons, i3, List.length_cons], (fun t m => ?_), by rw [PyData.canLayAll0, h4, i5]; rfl, by rw [PyData.depthAll]; exact Nat.max_le.mpr ⟨h5, i6⟩⟩
    · rw [PyData.shownAll, List.map_cons, List.sum_cons, List.length_cons, Nat.mul_succ]
      omega
    · rw [PyData.shownAll] at m
      rcases List.mem_cons.mp m with rfl | m
      · exact h3
      · exact i4 t m
theorem nice_tup (h : ∀ x ∈ ds, Nice B D x) (hl : ds.length ≤ n) : Nice (B * n + 2 * n + 3) (D + 1) (.tuple ds) := by
  obtain ⟨h1, h2, h3, h4, h5, h6⟩ := nice_all h
  have m : B * ds.length ≤ B * n := Nat.mul_le_mul_left _ hl
  refine ⟨h1, ?_, ?_, h5, by rw [PyData.depth]; omega⟩
  · have := tupleText_len_le (PyData.shownAll ds)
    show (tupleText (PyData.shownAll ds)).length ≤ _
    omega
  · show PyData.strOk (("(" : Str) ++ Str.join ", " (PyData.shownAll ds) ++ _) = true
    have o1 : PyData.strOk ("(" : Str) = true := ok_of _
    rw [ok_app, ok_app, ok_join (ok_of _) h4, o1]
    simp only [Bool.true_and]
    split <;> exact ok_of _
theorem nice_lst (h : ∀ x ∈ ds, Nice B D x) (hl : ds.length ≤ n) : Nice (B * n + 2 * n + 3) (D + 1) (.list ds) := by
  obtain ⟨h1, h2, h3, h4, h5, h6⟩ := nice_all h
  have m : B * ds.length ≤ B * n := Nat.mul_le_mul_left _ hl
  refine ⟨h1, ?_, ?_, h5, by rw [PyData.depth]; omega⟩
  · have := listText_len_le (PyData.shownAll ds)
    show (listText (PyData.shownAll ds)).length ≤ _
    omega
  · show PyData.strOk (textFrom 0 "[" (PyData.shownAll ds) ++ "]") = true
    rw [ok_app, ok_text (ok_of _) h4]
    exact ok_of _
theorem dsp_nice (h : Dp K H v d) (k : Nice 16000000 60 d) : Dsp K H v := by
  obtain ⟨h1, h2, h3, h4, h5⟩ := k
  refine ⟨d, .dp h ?_, h1, by rw [sizeLine_eq]; omega, h3⟩
  unfold SeqAt.shaped
  rw [h4, decide_eq_true (by omega)]
  rfl
theorem dd_nice (h : Dp K H v d) (k : Nice 16000000 60 d) : Dd K H v d ∧ Shows d := by
  obtain ⟨h1, h2, h3, h4, h5⟩ := k
  refine ⟨.dp h ?_, h1, by rw [sizeLine_eq]; omega, h3⟩
  unfold SeqAt.shaped
  rw [h4, decide_eq_true (by omega)]
  rfl
end
end Lw
/-! Plain data in a heap that grows. -/
namespace Lw
open PySem PySem.Spec PyProof.Rows L2 Evl
mutual
theorem dpUp {K : PySem.W.Frag} {H H' : Hp} (e : Ex H H') : ∀ {v : V} {d : PyData}, Dp K H v d → Dp K H' v d
  | _, _, .non => .non
  | _, _, .bl b => .bl b
  | _, _, .int i => .int i
  | _, _, .str y => .str y
  | _, _, .lst h t => .lst (ex_l e h) (dpsUp e t)
  | _, _, .tup h t => .tup (ex_t e h) (dpsUp e t)
theorem dpsUp {K : PySem.W.Frag} {H H' : Hp} (e : Ex H H') : ∀ {vs : List V} {ds : List PyData}, DpAll K H vs ds → DpAll K H' vs ds
  | _, _, .nil => .nil
  | _, _, .cons h t => .cons (dpUp e h) (dpsUp e t)
end
end Lw
/-! sorted and min of lists of plain data (tuples of ints and texts, nested). -/
namespace Lw
open PySem PySem.Spec PyProof.Rows L2 Evl PySem.W
/-- the order of data, as places are compared -/
def dlt (d e : PyData) : Bool := dataLt d e
theorem dlt_asym {d e : PyData} (h : dlt d e = true) : dlt e d = false := by
  cases q : dlt e d with
  | false => rfl
  | true =>
    have t := (listOrd itemOrd).trans _ _ _ (show (listOrd itemOrd).blt (keyToks d) (keyToks e) = true from h) (show (listOrd itemOrd).blt (keyToks e) (keyToks d) = true from q)
    rw [(listOrd itemOrd).irrefl] at t
    cases t
theorem dlt_total {d e : PyData} (h1 : dlt d e = false) (h2 : dlt e d = false) : keyToks d = keyToks e := (listOrd itemOrd).total _ _ h1 h2
def rSortedDt (K : PySem.W.Frag) : List V → Hp → VK → Prop := fun vs H Q => ∃ (a : Addr) (ys : List V) (enc : V → PyData), vs = [V.ref a] ∧ SqL K H a ys ∧ (∀ y ∈ ys, Dp K H y (enc y) ∧ (enc y).depth ≤ 60) ∧ AllAlike (ys.map enc) ∧ Sortable (ys.map enc) ∧
  ∀ zs p, zs.Perm ys → zs.Pairwise (fun y z => dlt (enc z) (enc y) = false) → H p = none → Q (.ref p) (upd H p (.lst zs))
theorem each_rel : ∀ {ys : List V} {vs : List Value}, Vals ys vs → EachIs (fun v y => RelV y v) vs ys
  | _, _, .nil => .nil
  | _, _, .cons r t => .cons r (each_rel t)
theorem rel_each : ∀ {vs : List Value} {ys : List V}, EachIs (fun v y => RelV y v) vs ys → Vals ys vs
  | _, _, .nil => .nil
  | _, _, .cons r t => .cons r (rel_each t)
section
variable {X : Cx}
theorem cr_sortedDt (hu : X.A.units + 64 < cLine) : CallR X (.builtin "sorted") (rSortedDt X.K) := by
  intro pins s σ H vs us Q I r h
  obtain ⟨a, ys, enc, rfl, hs, hd, al, so, q⟩ := h
  obtain ⟨its, rv, hl, hz⟩ := I.list hs
  obtain ⟨u, rfl, ru⟩ := vals1 r
  obtain rfl : u = Value.ref a := ru
  have er : ∀ {ys : List V} {its : List Value}, Vals ys its → (∀ y ∈ ys, Dp X.K H y (enc y) ∧ (enc y).depth ≤ 60) → EachIs (fun v y => ∃ as, Reads s.heap v (enc y) as) its ys := by
    intro ys its rv
    induction rv with
    | nil => exact fun _ => .nil
    | cons r t ih => exact fun hd => .cons (Dp.reads I _ _ _ (hd _ List.mem_cons_self).1 r) (ih fun y m => hd y (List.mem_cons_of_mem _ m))
  refine sorted_data hl.isList (each_rel rv) (er rv hd) al so hz (fun y m => ?_) fun out hlen ho => ?_
  · have := (hd y m).2
    omega
  · obtain ⟨e, he⟩ := sortedAll_at s.heap its out.toArray
    have hp := List.mergeSort_perm ys (dataLe false enc)
    have tl := sortLe_total (listOrd itemOrd) false fun y : V => keyToks (enc y)
    have hsrt := List.pairwise_mergeSort (le := dataLe false enc) tl.trans (fun a b => by rw [Bool.or_eq_true]; exact tl.total a b) ys
    refine ⟨.ref _, _, I.laid (t' := s.toks) (fun b u e => sortedAll_old e) (Nat.le_succ _) (o := .lst (ys.mergeSort (dataLe false enc))) ⟨by rw [hp.length_eq]; exact hz, out, e, rel_each ho, he⟩, rfl, q _ _ hp (hsrt.imp fun {y z} h => ?_) (I.hok.fresh (Nat.le_succ _))⟩
    have h' : (!(listOrd itemOrd).blt (keyToks (enc z)) (keyToks (enc y))) = true := h
    rw [Bool.not_eq_true'] at h'
    exact h'
def rMinDt (K : PySem.W.Frag) : List V → Hp → VK → Prop := fun vs H Q => ∃ (a : Addr) (ys : List V) (enc : V → PyData), vs = [V.ref a] ∧ SqL K H a ys ∧ ys ≠ [] ∧ (∀ y ∈ ys, Dp K H y (enc y) ∧ (enc y).depth ≤ 60 ∧ enc y ≠ .none) ∧ (∀ y ∈ ys, ∀ z ∈ ys, alike (enc y) (enc z) = true) ∧
  ∀ y, y ∈ ys → (∀ z ∈ ys, dlt (enc z) (enc y) = false) → Q y H
theorem minD_le : ∀ (xs : List PyData) (x : PyData), (minD x xs ∈ x :: xs) ∧ ∀ y ∈ x :: xs, dlt y (minD x xs) = false
  | [], x => ⟨List.mem_cons_self, fun y m => by
    obtain rfl := List.mem_singleton.mp m
    exact (listOrd itemOrd).irrefl _⟩
  | z :: xs, x => by
    have e : minD x (z :: xs) = minD (if dataLt z x then z else x) xs := rfl
    rw [e]
    obtain ⟨h1, h2⟩ := minD_le xs (if dataLt z x then z else x)
    refine ⟨?_, fun y m => ?_⟩
    · rcases List.mem_cons.mp h1 with e | m
      · rw [e]
        split
        · exact List.mem_cons_of_mem _ List.mem_cons_self
        · exact List.mem_cons_self
      · exact List.mem_cons_of_mem _ (List.mem_cons_of_mem _ m)
    · have h3 := h2 _ List.mem_cons_self
      have low : ∀ a b c : PyData, dlt a b = false → dlt b c = false → dlt a c = false := fun a b c p q => by
        cases r : dlt a c with
        | false => rfl
        | true =>
          rcases (listOrd itemOrd).negTrans _ (keyToks b) _ (show (listOrd itemOrd).blt (keyToks a) (keyToks c) = true from r) with t | t
          · rw [show dlt a b = true from t] at p; cases p
          · rw [show dlt b c = true from t] at q; cases q
      rcases List.mem_cons.mp m with e | m
      · rw [e]
        by_cases c : dataLt z x = true
        · rw [if_pos c] at h3 ⊢
          exact low _ _ _ (dlt_asym c) h3
        · rw [if_neg c] at h3 ⊢
          exact h3
      · rcases List.mem_cons.mp m with e | m
        · rw [e]
          by_cases c : dataLt z x = true
          · rw [if_pos c] at h3 ⊢
            exact h3
          · rw [if_neg c] at h3 ⊢
            exact low _ _ _ (Bool.not_eq_true _ ▸ c) h3
        · exact h2 y (List.mem_cons_of_mem _ m)
theorem cr_minDt (hc : X.calm = true) (hu : X.A.units + 70 < cLine) : CallR X (.builtin "min") (rMinDt X.K) := by
  intro pins s σ H vs us Q I r h
  obtain ⟨a, ys, enc, rfl, hs, hne, hd, al, q⟩ := h
  obtain ⟨its, rv, hl, hz⟩ := I.list hs
  rw [Vals.ref1 r]
  cases ys with
  | nil => exact absurd rfl hne
  | cons y ys =>
  have er : ∀ {ys : List V} {its : List Value}, Vals ys its → (∀ y ∈ ys, Dp X.K H y (enc y) ∧ (enc y).depth ≤ 60 ∧ enc y ≠ .none) → ∃ as, ReadsAll s.heap its (ys.map enc) as := by
    intro ys its rv
    induction rv with
    | nil => exact fun _ => ⟨_, .nil⟩
    | cons r t ih => exact fun hd => let ⟨_, a⟩ := Dp.reads I _ _ _ (hd _ List.mem_cons_self).1 r; let ⟨_, b⟩ := ih fun y m => hd y (List.mem_cons_of_mem _ m); ⟨_, .cons a b⟩
  obtain ⟨as, ra⟩ := er rv hd
  have dep : ∀ {ys : List V}, (∀ y ∈ ys, (enc y).depth ≤ 60) → PyData.depthAll (ys.map enc) ≤ 60 := by
    intro ys
    induction ys with
    | nil => exact fun _ => Nat.zero_le _
    | cons z zs ih =>
      intro h
      show max (enc z).depth (PyData.depthAll (zs.map enc)) ≤ 60
      have := h z List.mem_cons_self
      have := ih fun y m => h y (List.mem_cons_of_mem _ m)
      omega
  have hdep := dep (ys := y :: ys) fun z m => (hd z m).2.1
  refine min_list_data (vs := its.toArray) (x := enc y) (xs := ys.map enc) (I.ok.hd hc) hl.isList (by simpa using ra) ⟨fun x hx z hz => ?_, fun x hx => ?_⟩ (by
    have e : PyData.depthAll (enc y :: ys.map enc) ≤ 60 := hdep
    omega) fun i v h' tk bs hv rd hk => ?_
  · obtain ⟨y1, m1, rfl⟩ := List.mem_map.mp (show x ∈ (y :: ys).map enc from hx)
    obtain ⟨y2, m2, rfl⟩ := List.mem_map.mp (show z ∈ (y :: ys).map enc from hz)
    exact al y1 m1 y2 m2
  · obtain ⟨y1, m1, rfl⟩ := List.mem_map.mp (show x ∈ (y :: ys).map enc from hx)
    exact (hd y1 m1).2.2
  · have hi : i < its.length := by
      have := (Array.getElem?_eq_some_iff.mp hv).1
      rwa [List.size_toArray] at this
    have hv' : its[i]? = some v := by rw [← hv, List.getElem?_toArray]
    have hy : i < (y :: ys).length := by rw [rv.length]; exact hi
    obtain ⟨u2, hu2, ru2⟩ := rv.get (List.getElem?_eq_getElem hy)
    obtain rfl : v = u2 := Option.some.inj (hv'.symm.trans hu2)
    have mz : (y :: ys)[i] ∈ y :: ys := List.getElem_mem hy
    generalize (y :: ys)[i] = z at ru2 mz
    obtain ⟨as2, r2⟩ := Dp.reads I _ _ _ (hd z mz).1 ru2
    have r3 : Reads h' v (enc z) as2 := reads_keeps hk r2
    have e := alike_unique _ _ _ _ _ (by
      obtain ⟨z2, m2, e2⟩ := List.mem_map.mp (show minD (enc y) (ys.map enc) ∈ (y :: ys).map enc from (minD_le _ _).1)
      rw [← e2]
      exact al z mz z2 m2) r3 rd
    refine ⟨z, H, I.kept hk, ru2, q z mz fun z2 m2 => ?_⟩
    rw [e]
    exact (minD_le _ _).2 _ (List.mem_map.mpr ⟨z2, m2, rfl⟩)
end
end Lw
/-! Defs that call themselves: a promise that asks for nothing; dict(tuple of pairs of an int and any value); min of cells. -/
namespace Lw
open PySem PySem.Spec PyProof.Rows L2 Evl
section
variable {P : Program} {w : World} {K : PySem.W.Frag} {mg : Str → Option Value} {base : Heap} {k : Nat} {x : Str} {st : Stmt} {ps : List Str} {sp : Sp}
theorem cl_false (D : DefAt K mg x st) (h : ∀ vs H Q E, ¬ sp vs H Q E) : Cl P w K mg base CX0 k x st ps sp := by
  obtain ⟨f, fd, F, m⟩ := D.ex
  exact ⟨f, fd, F, ⟨fun vs H Q E q => absurd q (h vs H Q E), fun A outer s H args us vs Q E _ _ _ _ hs => absurd hs (h vs H Q E)⟩, m⟩
end
/-- pairs of an int and any value -/
abbrev KvAt (H : Hp) (q : Addr) (p : Int × V) : Prop := H q = some (.tup [.int p.1, p.2])
def kvG (ps : List (Int × V)) : List (Key × V) := ps.map fun p => (.inl p.1, p.2)
theorem kvs_of {X : Cx} {pins : List (Addr × Obj)} {σ : L2.St} {H : Hp} {s : Shared} (I : Inv X pins σ H s) : ∀ {qs : List Addr} {ps : List (Int × V)}, Paired (KvAt H) qs ps →
    ∃ (vps : List (Value × Value)) (prs : List (Key × Value)), Paired (fun (q : Addr) (kv : Value × Value) => IsTup s.heap q #[kv.1, kv.2]) qs vps ∧ KV (kvG ps) prs ∧
      Paired (fun (pr : Key × Value) (kv : Value × Value) => keyIs pr.1 kv.1 = true ∧ pr.2 = kv.2) prs vps
  | _, _, .nil => ⟨[], [], .nil, .nil, .nil⟩
  | _, _, .cons (a := q) (b := p) h t => by
    obtain ⟨vps, prs, a, b, c⟩ := kvs_of I t
    obtain ⟨its, rv, ht, _⟩ := I.tuple (SqT.of h)
    obtain ⟨u, y, rfl, ru, ry⟩ := vals2 rv
    obtain ⟨k, rfl⟩ := ru
    exact ⟨(.int p.1 k, y) :: vps, (.inl p.1, y) :: prs, .cons ht a, .cons ⟨rfl, ry⟩ b, .cons ⟨keyIs_int _ _, rfl⟩ c⟩
/-- dict(t), t a tuple of pairs of an int and a value -/
theorem cr_dictG {X : Cx} (hc : X.calm = true) : CallR X (.type "dict") (fun as H Q => ∃ a qs ps, as = [.ref a] ∧ Tu H a (qs.map V.ref) ∧ Paired (KvAt H) qs ps ∧ ∀ l, H l = none → Q (.ref l) (upd H l (.dK (mergeK [] (kvG ps))))) := by
  intro pins s σ H as us Q I r hq
  obtain ⟨a, qs, ps, rfl, ⟨o, hd, ho⟩, hr, q⟩ := hq
  obtain rfl := Vals.ref1 r
  obtain ⟨go, hz, its, rv, o', ho', hcl, n, hdat⟩ := I.hok a _ ho
  obtain rfl : o = o' := Option.some.inj (go.symm.trans ho')
  obtain rfl := refs_at rv
  rw [List.length_map] at hz
  obtain ⟨vps, prs, h1, h2, h3⟩ := kvs_of I hr
  have l1 : qs.length = vps.length := Paired.length h1
  have l3 : prs.length = vps.length := Paired.length h3
  have key : ∀ j k v, vps[j]? = some (k, v) → ∃ b, qs[j]? = some b ∧ IsTup s.heap b #[k, v] := fun j k v e => by
    obtain ⟨b, hb, ht⟩ := L2.DX.pget h1 e
    exact ⟨b, hb, ht⟩
  refine PySem.call_dict_pairs (knd := mixKind X.prog X.w) (kvs := prs) (PairArg.tuple a (qs.map Value.ref).toArray (fun j => qs.getD j 0) vps) (I.ok.hd hc) ⟨⟨o, n, go, hcl, hd, hdat⟩, ?_, fun j k v e => ?_⟩ ⟨l3, fun i k v e => ?_⟩ (by omega) fun h' tk dd hk => ?_
  · rw [List.size_toArray, List.length_map]; exact l1
  · obtain ⟨b, hb, ht⟩ := key j k v e
    have eb : qs.getD j 0 = b := by rw [List.getD_eq_getElem?_getD, hb]; rfl
    refine ⟨?_, .inl ?_⟩
    · show (qs.map Value.ref).toArray[j]? = some (.ref (qs.getD j 0))
      rw [eb, List.getElem?_toArray, List.getElem?_map, hb]; rfl
    · show s.heap.IsTuple (qs.getD j 0) #[k, v]
      rw [eb]; exact ht
  · obtain ⟨⟨k', v'⟩, hp, hk, hv⟩ := L2.DX.pget h3 e
    exact ⟨k', by rw [hp, show v' = v from hv], hk⟩
  · have hm : (s.heap.objs.size == sysModules) = false := beq_eq_false_iff_ne.mpr (Nat.ne_of_gt I.big)
    have hlen : (mergeK [] (kvG ps)).length ≤ sizeLine := by
      refine Nat.le_trans (length_mergeK _ []) ?_
      rw [List.length_nil, Nat.zero_add, h2.length]
      omega
    exact ⟨.ref _, _, I.laid (t' := tk) (fun b u e => hk b u (fun z => nomatch z) e) (Nat.le_refl _) (o := .dK (mergeK [] (kvG ps))) ⟨hlen, hm, merged [] prs, KV.merge h2 .nil, dd⟩, rfl, q _ (I.hok.fresh (Nat.le_refl _))⟩
theorem kvG_app (a b : List (Int × V)) : kvG (a ++ b) = kvG a ++ kvG b := List.map_append
theorem mergeG_asc : ∀ {ps acc : List (Int × V)}, (acc ++ ps).Pairwise (fun p q => p.1 ≠ q.1) → mergeK (kvG acc) (kvG ps) = kvG (acc ++ ps)
  | [], acc, _ => by rw [List.append_nil]; rfl
  | p :: ps, acc, h => by
    have no : ((kvG acc).any fun kv => decide (kv.1 = Sum.inl p.1)) = false := by
      rw [List.any_eq_false]
      intro x hx
      obtain ⟨q, hq, rfl⟩ := List.mem_map.mp hx
      have := (List.pairwise_append.mp h).2.2 q hq p (by simp)
      simpa using this
    show mergeK (putK (kvG acc) (.inl p.1) p.2) (kvG ps) = _
    unfold putK
    rw [no]
    have e : kvG acc ++ [(Sum.inl p.1, p.2)] = kvG (acc ++ [p]) := by simp [kvG]
    show mergeK (kvG acc ++ [(Sum.inl p.1, p.2)]) (kvG ps) = _
    rw [e, mergeG_asc (by simpa using h)]
    simp
theorem valG {c : Int} : ∀ {ps : List (Int × V)}, valV (kvG ps) (.inl c) = (ps.find? fun p => decide (c = p.1)).map (·.2)
  | [] => rfl
  | p :: ps => by
    have ih := valG (c := c) (ps := ps)
    unfold valV at ih ⊢
    show Option.map _ (List.find? _ ((Sum.inl p.1, p.2) :: kvG ps)) = _
    rw [List.find?_cons, List.find?_cons]
    by_cases e : c = p.1
    · rw [show (decide (((Sum.inl p.1 : Key), p.2).1 = Sum.inl c)) = true from decide_eq_true (by rw [e]), show decide (c = p.1) = true from decide_eq_true e]
      rfl
    · rw [show (decide (((Sum.inl p.1 : Key), p.2).1 = Sum.inl c)) = false from decide_eq_false (fun z => e (Sum.inl.inj z).symm), show decide (c = p.1) = false from decide_eq_false e]
      exact ih
/-- a tuple of anything == () -/
def rEqE (K : PySem.W.Frag) : R2 := fun x y H Q => ∃ a b xs, x = .ref a ∧ y = .ref b ∧ SqT K H a xs ∧ H b = some (.tup []) ∧ Q (.bl xs.isEmpty) H
theorem op_eqE {X : Cx} (hu : X.A.units + 64 < cLine) : OpR X (compareOp .Eq) (rEqE X.K) := by
  intro pins s σ H x y v u Q I rx ry h
  obtain ⟨a, b, xs, rfl, rfl, ha, hb, q⟩ := h
  cases rx
  cases ry
  obtain ⟨its, rv, hta, _⟩ := I.tuple ha
  obtain ⟨its2, rv2, htb, _⟩ := I.tuple (SqT.of hb)
  cases rv2
  refine SeqAt.eq_tupleAt (e := fun _ => true) hta htb (by omega) (fun j _ h2 => absurd h2 (by simp)) ?_
  have e : ((List.range (min its.toArray.size ([] : List Value).toArray.size)).all (fun _ => true) && its.toArray.size == ([] : List Value).toArray.size) = xs.isEmpty := by
    cases rv with
    | nil => rfl
    | cons _ _ => simp
  rw [e]
  exact ⟨.bl _, H, I, rfl, q⟩
end Lw
/-! Forms, plainly: values, put, general, reduced forms; the reduced form is the one that is made of all values. -/
namespace Lw
namespace Fo
mutual
inductive Form (κ : Type) where
  | col (c : Int)
  | cel (k : κ)
  | ask (k : κ) (rows : Rows κ) (other : Form κ)
inductive Rows (κ : Type) where
  | nil
  | cons (c : Int) (f : Form κ) (t : Rows κ)
end
variable {κ : Type} [DecidableEq κ]
mutual
def Form.beq : Form κ → Form κ → Bool
  | .col c, .col d => decide (c = d)
  | .cel k, .cel l => decide (k = l)
  | .ask k r o, .ask l s p => decide (k = l) && (Rows.beq r s && Form.beq o p)
  | _, _ => false
def Rows.beq : Rows κ → Rows κ → Bool
  | .nil, .nil => true
  | .cons c f t, .cons d g u => decide (c = d) && (Form.beq f g && Rows.beq t u)
  | _, _ => false
end
mutual
theorem Form.beq_iff : ∀ f g : Form κ, Form.beq f g = true ↔ f = g
  | .col c, g => by cases g <;> simp [Form.beq]
  | .cel k, g => by cases g <;> simp [Form.beq]
  | .ask k r o, g => by
    cases g with
    | col c => simp [Form.beq]
    | cel k => simp [Form.beq]
    | ask l s p => simp [Form.beq, Rows.beq_iff r s, Form.beq_iff o p]
theorem Rows.beq_iff : ∀ f g : Rows κ, Rows.beq f g = true ↔ f = g
  | .nil, g => by cases g <;> simp [Rows.beq]
  | .cons c f t, g => by
    cases g with
    | nil => simp [Rows.beq]
    | cons d g u => simp [Rows.beq, Form.beq_iff f g, Rows.beq_iff t u]
end
instance : DecidableEq (Form κ) := fun f g => decidable_of_iff _ (Form.beq_iff f g)
instance : DecidableEq (Rows κ) := fun f g => decidable_of_iff _ (Rows.beq_iff f g)
def Rows.list : Rows κ → List (Int × Form κ)
  | .nil => []
  | .cons c f t => (c, f) :: t.list
def Rows.of : List (Int × Form κ) → Rows κ
  | [] => .nil
  | p :: ps => .cons p.1 p.2 (Rows.of ps)
theorem Rows.list_of : ∀ ps : List (Int × Form κ), (Rows.of ps).list = ps
  | [] => rfl
  | p :: ps => by rw [Rows.of, Rows.list, Rows.list_of ps]
/-! ### values -/
mutual
def eval (ρ : κ → Int) : Form κ → Int
  | .col c => c
  | .cel k => ρ k
  | .ask k rows o => (evalR ρ (ρ k) rows).getD (eval ρ o)
def evalR (ρ : κ → Int) (v : Int) : Rows κ → Option Int
  | .nil => none
  | .cons c f t => if v = c then some (eval ρ f) else evalR ρ v t
end
mutual
def keysIn : Form κ → List κ
  | .col _ => []
  | .cel k => [k]
  | .ask k rows o => k :: (keysIn o ++ keysR rows)
def keysR : Rows κ → List κ
  | .nil => []
  | .cons _ f t => keysIn f ++ keysR t
end
mutual
def askedIn : Form κ → List (κ × Int)
  | .col _ => []
  | .cel _ => []
  | .ask k rows o => askedIn o ++ askedR k rows
def askedR (k : κ) : Rows κ → List (κ × Int)
  | .nil => []
  | .cons c f t => (k, c) :: (askedIn f ++ askedR k t)
end
mutual
def put (s : κ) (c : Int) : Form κ → Form κ
  | .col d => .col d
  | .cel k => if k = s then .col c else .cel k
  | .ask k rows o => if k = s then (putAt s c rows).getD (put s c o) else .ask k (putR s c rows) (put s c o)
def putAt (s : κ) (c : Int) : Rows κ → Option (Form κ)
  | .nil => none
  | .cons d f t => if c = d then some (put s c f) else putAt s c t
def putR (s : κ) (c : Int) : Rows κ → Rows κ
  | .nil => .nil
  | .cons d f t => .cons d (put s c f) (putR s c t)
end
mutual
def general (s : κ) : Form κ → Form κ
  | .col d => .col d
  | .cel k => .cel k
  | .ask k rows o => if k = s then general s o else .ask k (generalR s rows) (general s o)
def generalR (s : κ) : Rows κ → Rows κ
  | .nil => .nil
  | .cons d f t => .cons d (general s f) (generalR s t)
end
def upd (ρ : κ → Int) (s : κ) (v : Int) : κ → Int := fun k => if k = s then v else ρ k
theorem upd_at (ρ : κ → Int) (s : κ) (v : Int) : upd ρ s v s = v := by unfold upd; rw [if_pos rfl]
theorem upd_ne {ρ : κ → Int} {s k : κ} {v : Int} (h : k ≠ s) : upd ρ s v k = ρ k := by unfold upd; rw [if_neg h]
theorem upd_self {ρ : κ → Int} {s : κ} {v : Int} (h : ρ s = v) : upd ρ s v = ρ := by
  funext k
  unfold upd
  split
  · rename_i e; rw [e, h]
  · rfl
theorem upd_upd {ρ : κ → Int} {s : κ} {v u : Int} : upd (upd ρ s v) s u = upd ρ s u := by
  funext k
  unfold upd
  split <;> rfl
theorem upd_comm {ρ : κ → Int} {s t : κ} {v u : Int} (h : s ≠ t) : upd (upd ρ s v) t u = upd (upd ρ t u) s v := by
  funext k
  unfold upd
  by_cases a : k = t
  · rw [if_pos a, if_neg (by rw [a]; exact h.symm), if_pos a]
  · rw [if_neg a]
    by_cases b : k = s
    · rw [if_pos b, if_pos b]
    · rw [if_neg b, if_neg b, if_neg a]
mutual
theorem eval_put (ρ : κ → Int) (s : κ) (c : Int) : ∀ f : Form κ, eval ρ (put s c f) = eval (upd ρ s c) f
  | .col d => rfl
  | .cel k => by
    show eval ρ (if k = s then .col c else .cel k) = upd ρ s c k
    unfold upd
    split
    · rfl
    · rfl
  | .ask k rows o => by
    show eval ρ (if k = s then _ else _) = (evalR (upd ρ s c) (upd ρ s c k) rows).getD (eval (upd ρ s c) o)
    split
    · rename_i e
      subst e
      rw [upd_at, ← evalR_putAt ρ k c rows, ← eval_put ρ k c o]
      cases putAt k c rows <;> rfl
    · rename_i e
      show (evalR ρ (ρ k) (putR s c rows)).getD (eval ρ (put s c o)) = _
      rw [upd_ne e, evalR_putR ρ s c (ρ k) rows, eval_put ρ s c o]
theorem evalR_putAt (ρ : κ → Int) (s : κ) (c : Int) : ∀ r : Rows κ, (putAt s c r).map (eval ρ) = evalR (upd ρ s c) c r
  | .nil => rfl
  | .cons d f t => by
    show Option.map (eval ρ) (if c = d then _ else _) = if c = d then _ else _
    split
    · rw [← eval_put ρ s c f]
      rfl
    · exact evalR_putAt ρ s c t
theorem evalR_putR (ρ : κ → Int) (s : κ) (c v : Int) : ∀ r : Rows κ, evalR ρ v (putR s c r) = evalR (upd ρ s c) v r
  | .nil => rfl
  | .cons d f t => by
    show (if v = d then _ else _) = if v = d then _ else _
    rw [eval_put ρ s c f, evalR_putR ρ s c v t]
end
mutual
theorem eval_gen (ρ : κ → Int) (s : κ) : ∀ f : Form κ, (s, ρ s) ∉ askedIn f → eval ρ (general s f) = eval ρ f
  | .col d, _ => rfl
  | .cel k, _ => rfl
  | .ask k rows o, h => by
    have ho : (s, ρ s) ∉ askedIn o := fun m => h (List.mem_append_left _ m)
    have hr : (s, ρ s) ∉ askedR k rows := fun m => h (List.mem_append_right _ m)
    show eval ρ (if k = s then _ else _) = (evalR ρ (ρ k) rows).getD (eval ρ o)
    split
    · rename_i e
      subst e
      rw [eval_gen ρ k o ho, evalR_none ρ k (ρ k) rows hr]
      rfl
    · show (evalR ρ (ρ k) (generalR s rows)).getD (eval ρ (general s o)) = _
      rw [eval_gen ρ s o ho, evalR_gen ρ s k (ρ k) rows hr]
theorem evalR_none (ρ : κ → Int) (k : κ) (v : Int) : ∀ r : Rows κ, (k, v) ∉ askedR k r → evalR ρ v r = none
  | .nil, _ => rfl
  | .cons d f t, h => by
    have n : v ≠ d := fun e => h (by rw [e]; exact List.mem_cons_self)
    show (if v = d then _ else _) = none
    rw [if_neg n]
    exact evalR_none ρ k v t fun m => h (List.mem_cons_of_mem _ (List.mem_append_right _ m))
theorem evalR_gen (ρ : κ → Int) (s k : κ) (v : Int) : ∀ r : Rows κ, (s, ρ s) ∉ askedR k r → evalR ρ v (generalR s r) = evalR ρ v r
  | .nil, _ => rfl
  | .cons d f t, h => by
    show (if v = d then _ else _) = if v = d then _ else _
    rw [eval_gen ρ s f fun m => h (List.mem_cons_of_mem _ (List.mem_append_left _ m)), evalR_gen ρ s k v t fun m => h (List.mem_cons_of_mem _ (List.mem_append_right _ m))]
end
/-! ### what is in a form -/
def cols : Rows κ → List Int
  | .nil => []
  | .cons c _ t => c :: cols t
theorem cols_put (s : κ) (c : Int) : ∀ r : Rows κ, cols (putR s c r) = cols r
  | .nil => rfl
  | .cons d f t => by
    show d :: cols (putR s c t) = d :: cols t
    rw [cols_put s c t]
theorem cols_gen (s : κ) : ∀ r : Rows κ, cols (generalR s r) = cols r
  | .nil => rfl
  | .cons d f t => by
    show d :: cols (generalR s t) = d :: cols t
    rw [cols_gen s t]
/-- colours ascend, there is one -/
def Asc (r : Rows κ) : Prop := cols r ≠ [] ∧ (cols r).Pairwise (· < ·)
theorem Asc.put {r : Rows κ} {s : κ} {c : Int} (h : Asc r) : Asc (putR s c r) := by
  unfold Asc
  rw [cols_put]
  exact h
theorem Asc.gen {r : Rows κ} {s : κ} (h : Asc r) : Asc (generalR s r) := by
  unfold Asc
  rw [cols_gen]
  exact h
mutual
/-- colours are good, cells are good, keys asked are good -/
def Ok (N : Int → Prop) (E A : κ → Prop) : Form κ → Prop
  | .col c => N c
  | .cel k => E k
  | .ask k rows o => A k ∧ Asc rows ∧ OkR N E A rows ∧ Ok N E A o
def OkR (N : Int → Prop) (E A : κ → Prop) : Rows κ → Prop
  | .nil => True
  | .cons c f t => N c ∧ Ok N E A f ∧ OkR N E A t
end
mutual
theorem Ok.mono {N : Int → Prop} {E A B : κ → Prop} (h : ∀ k, A k → B k) : ∀ f : Form κ, Ok N E A f → Ok N E B f
  | .col c, q => q
  | .cel k, q => q
  | .ask k rows o, ⟨a, z, b, c⟩ => ⟨h _ a, z, OkR.mono h rows b, Ok.mono h o c⟩
theorem OkR.mono {N : Int → Prop} {E A B : κ → Prop} (h : ∀ k, A k → B k) : ∀ r : Rows κ, OkR N E A r → OkR N E B r
  | .nil, q => q
  | .cons c f t, ⟨a, b, d⟩ => ⟨a, Ok.mono h f b, OkR.mono h t d⟩
end
mutual
theorem Ok.put {N : Int → Prop} {E A : κ → Prop} {s : κ} {c : Int} (hc : N c) : ∀ f : Form κ, Ok N E A f → Ok N E (fun k => A k ∧ k ≠ s) (put s c f)
  | .col d, q => q
  | .cel k, q => by
    show Ok _ _ _ (if k = s then _ else _)
    split
    · exact hc
    · exact q
  | .ask k rows o, ⟨a, z, b, d⟩ => by
    show Ok _ _ _ (if k = s then _ else _)
    split
    · cases e : putAt s c rows with
      | none => exact Ok.put hc o d
      | some g => exact OkR.putAt hc rows b g e
    · rename_i n
      exact ⟨⟨a, n⟩, z.put, OkR.putR hc rows b, Ok.put hc o d⟩
theorem OkR.putAt {N : Int → Prop} {E A : κ → Prop} {s : κ} {c : Int} (hc : N c) : ∀ r : Rows κ, OkR N E A r → ∀ g, putAt s c r = some g → Ok N E (fun k => A k ∧ k ≠ s) g
  | .nil, _, g, h => by cases h
  | .cons d f t, ⟨a, b, q⟩, g, h => by
    unfold Fo.putAt at h
    split at h
    · cases h
      exact Ok.put hc f b
    · exact OkR.putAt hc t q g h
theorem OkR.putR {N : Int → Prop} {E A : κ → Prop} {s : κ} {c : Int} (hc : N c) : ∀ r : Rows κ, OkR N E A r → OkR N E (fun k => A k ∧ k ≠ s) (putR s c r)
  | .nil, q => q
  | .cons d f t, ⟨a, b, q⟩ => ⟨a, Ok.put hc f b, OkR.putR hc t q⟩
end
mutual
theorem Ok.gen {N : Int → Prop} {E A : κ → Prop} {s : κ} : ∀ f : Form κ, Ok N E A f → Ok N E (fun k => A k ∧ k ≠ s) (general s f)
  | .col d, q => q
  | .cel k, q => q
  | .ask k rows o, ⟨a, z, b, d⟩ => by
    show Ok _ _ _ (if k = s then _ else _)
    split
    · exact Ok.gen o d
    · rename_i n
      exact ⟨⟨a, n⟩, z.gen, OkR.gen rows b, Ok.gen o d⟩
theorem OkR.gen {N : Int → Prop} {E A : κ → Prop} {s : κ} : ∀ r : Rows κ, OkR N E A r → OkR N E (fun k => A k ∧ k ≠ s) (generalR s r)
  | .nil, q => q
  | .cons d f t, ⟨a, b, q⟩ => ⟨a, Ok.gen f b, OkR.gen t q⟩
end
mutual
theorem Ok.asked {N : Int → Prop} {E A : κ → Prop} : ∀ f : Form κ, Ok N E A f → ∀ p ∈ askedIn f, A p.1 ∧ N p.2
  | .col d, _, p, m => by cases m
  | .cel k, _, p, m => by cases m
  | .ask k rows o, ⟨a, z, b, d⟩, p, m => by
    rcases List.mem_append.mp m with m | m
    · exact Ok.asked o d p m
    · exact OkR.asked a rows b p m
theorem OkR.asked {N : Int → Prop} {E A : κ → Prop} {k : κ} (a : A k) : ∀ r : Rows κ, OkR N E A r → ∀ p ∈ askedR k r, A p.1 ∧ N p.2
  | .nil, _, p, m => by cases m
  | .cons d f t, ⟨n, b, q⟩, p, m => by
    rcases List.mem_cons.mp m with rfl | m
    · exact ⟨a, n⟩
    · rcases List.mem_append.mp m with m | m
      · exact Ok.asked f b p m
      · exact OkR.asked a t q p m
end
mutual
theorem put_id {s : κ} {c : Int} : ∀ f : Form κ, s ∉ keysIn f → put s c f = f
  | .col d, _ => rfl
  | .cel k, h => by
    show (if k = s then _ else _) = _
    rw [if_neg fun e => h (by rw [e]; exact List.mem_cons_self)]
  | .ask k rows o, h => by
    show (if k = s then _ else _) = _
    rw [if_neg fun e => h (by rw [e]; exact List.mem_cons_self)]
    rw [put_id o fun m => h (List.mem_cons_of_mem _ (List.mem_append_left _ m)), putR_id rows fun m => h (List.mem_cons_of_mem _ (List.mem_append_right _ m))]
theorem putR_id {s : κ} {c : Int} : ∀ r : Rows κ, s ∉ keysR r → putR s c r = r
  | .nil, _ => rfl
  | .cons d f t, h => by
    unfold putR
    rw [put_id f fun m => h (List.mem_append_left _ m), putR_id t fun m => h (List.mem_append_right _ m)]
end
mutual
theorem gen_id {N : Int → Prop} {E A : κ → Prop} {s : κ} : ∀ f : Form κ, Ok N E A f → (∀ c, (s, c) ∉ askedIn f) → general s f = f
  | .col d, _, _ => rfl
  | .cel k, _, _ => rfl
  | .ask k rows o, ⟨a, z, b, d⟩, h => by
    have n : k ≠ s := fun e => by
      cases rows with
      | nil => exact z.1 rfl
      | cons c f t => exact h c (by rw [← e]; exact List.mem_append_right _ List.mem_cons_self)
    show (if k = s then _ else _) = _
    rw [if_neg n, gen_id o d fun c m => h c (List.mem_append_left _ m), genR_id rows b fun c m => h c (List.mem_append_right _ m)]
theorem genR_id {N : Int → Prop} {E A : κ → Prop} {s k : κ} : ∀ r : Rows κ, OkR N E A r → (∀ c, (s, c) ∉ askedR k r) → generalR s r = r
  | .nil, _, _ => rfl
  | .cons d f t, ⟨a, b, q⟩, h => by
    unfold generalR
    rw [gen_id f b fun c m => h c (List.mem_cons_of_mem _ (List.mem_append_left _ m)), genR_id t q fun c m => h c (List.mem_cons_of_mem _ (List.mem_append_right _ m))]
end
mutual
/-- where a key is not asked: exchanging its own value in the answer -/
theorem eval_swap {N : Int → Prop} {E A : κ → Prop} {ρ : κ → Int} {s : κ} {v c : Int} (hv : ρ s = v) (hN : ¬ N v) (hA : ¬ A s) (hk : ∀ k, E k → k ≠ s → ρ k ≠ v) : ∀ f : Form κ, Ok N E A f → (if eval ρ f = v then c else eval ρ f) = eval (upd ρ s c) f
  | .col d, h => by
    show (if d = v then c else d) = d
    rw [if_neg fun e => hN (by rw [← e]; exact h)]
  | .cel k, h => by
    show (if ρ k = v then c else ρ k) = upd ρ s c k
    by_cases e : k = s
    · rw [e, if_pos hv, upd_at]
    · rw [if_neg (hk k h e), upd_ne e]
  | .ask k rows o, ⟨a, z, b, d⟩ => by
    have n : k ≠ s := fun e => hA (by rw [← e]; exact a)
    show (if (evalR ρ (ρ k) rows).getD (eval ρ o) = v then c else (evalR ρ (ρ k) rows).getD (eval ρ o)) = (evalR (upd ρ s c) (upd ρ s c k) rows).getD (eval (upd ρ s c) o)
    rw [upd_ne n, ← evalR_swap hv hN hA hk (ρ k) rows b, ← eval_swap hv hN hA hk o d]
    cases evalR ρ (ρ k) rows <;> rfl
theorem evalR_swap {N : Int → Prop} {E A : κ → Prop} {ρ : κ → Int} {s : κ} {v c : Int} (hv : ρ s = v) (hN : ¬ N v) (hA : ¬ A s) (hk : ∀ k, E k → k ≠ s → ρ k ≠ v) (u : Int) : ∀ r : Rows κ, OkR N E A r → (evalR ρ u r).map (fun x => if x = v then c else x) = evalR (upd ρ s c) u r
  | .nil, _ => rfl
  | .cons d f t, ⟨a, b, q⟩ => by
    show Option.map _ (if u = d then _ else _) = if u = d then _ else _
    split
    · rw [← eval_swap (c := c) hv hN hA hk f b]
      rfl
    · exact evalR_swap hv hN hA hk u t q
end
/-! ### reduced forms -/
/-- the least key that is asked -/
def least (lt : κ → κ → Bool) (f : Form κ) : Option κ := match (askedIn f).map (·.1) with
  | [] => none
  | k :: ks => some (ks.foldl (fun a b => if lt b a then b else a) k)
theorem fold_mem (lt : κ → κ → Bool) : ∀ (ks : List κ) (k : κ), ks.foldl (fun a b => if lt b a then b else a) k ∈ k :: ks
  | [], k => List.mem_cons_self
  | b :: ks, k => by
    have h := fold_mem lt ks (if lt b k then b else k)
    show ks.foldl _ (if lt b k then b else k) ∈ _
    rcases List.mem_cons.mp h with e | m
    · rw [e]
      split
      · exact List.mem_cons_of_mem _ List.mem_cons_self
      · exact List.mem_cons_self
    · exact List.mem_cons_of_mem _ (List.mem_cons_of_mem _ m)
theorem fold_least (lt : κ → κ → Bool) {s : κ} : ∀ (ks : List κ) (k : κ), s ∈ k :: ks → (∀ a ∈ k :: ks, lt a s = false) → (∀ a ∈ k :: ks, a = s ∨ lt s a = true) → ks.foldl (fun a b => if lt b a then b else a) k = s
  | [], k, m, _, _ => (List.mem_singleton.mp m).symm
  | b :: ks, k, m, h1, h2 => by
    show ks.foldl _ (if lt b k then b else k) = s
    have hb := h1 b (List.mem_cons_of_mem _ List.mem_cons_self)
    have sub : ∀ a ∈ (if lt b k then b else k) :: ks, a ∈ k :: b :: ks := fun a ma => by
      rcases List.mem_cons.mp ma with e | q
      · rw [e]
        split
        · exact List.mem_cons_of_mem _ List.mem_cons_self
        · exact List.mem_cons_self
      · exact List.mem_cons_of_mem _ (List.mem_cons_of_mem _ q)
    refine fold_least lt ks _ ?_ (fun a ma => h1 a (sub a ma)) (fun a ma => h2 a (sub a ma))
    rcases List.mem_cons.mp m with e | m
    · subst e
      rw [hb]
      exact List.mem_cons_self
    · rcases List.mem_cons.mp m with e | m
      · subst e
        rcases h2 k List.mem_cons_self with e2 | e2
        · rw [e2, hb]
          exact List.mem_cons_self
        · rw [e2]
          exact List.mem_cons_self
      · exact List.mem_cons_of_mem _ m
def dd : List Int → List Int
  | [] => []
  | x :: xs => if x ∈ xs then dd xs else x :: dd xs
theorem mem_dd {y : Int} : ∀ {xs : List Int}, y ∈ dd xs ↔ y ∈ xs
  | [] => Iff.rfl
  | x :: xs => by
    unfold dd
    by_cases h : x ∈ xs
    · rw [if_pos h, mem_dd, List.mem_cons]
      exact ⟨.inr, fun q => q.elim (fun e => e ▸ h) id⟩
    · rw [if_neg h, List.mem_cons, List.mem_cons, mem_dd]
theorem nodup_dd : ∀ xs : List Int, (dd xs).Nodup
  | [] => List.nodup_nil
  | x :: xs => by
    unfold dd
    by_cases h : x ∈ xs
    · rw [if_pos h]
      exact nodup_dd xs
    · rw [if_neg h, List.nodup_cons]
      exact ⟨fun m => h (mem_dd.mp m), nodup_dd xs⟩
/-- the colours for which a key is asked, ascending -/
def named (f : Form κ) (s : κ) : List Int := (dd (((askedIn f).filter fun p => decide (p.1 = s)).map (·.2))).mergeSort
def redN (lt : κ → κ → Bool) : Nat → Form κ → Form κ
  | 0, f => f
  | n + 1, f => match least lt f with
    | none => f
    | some s =>
      let rest := redN lt n (general s f)
      let rows := (named f s).filterMap fun c =>
        let inner := redN lt n (put s c f)
        if inner = (if s ∈ keysIn rest then redN lt n (put s c rest) else rest) then none else some (c, inner)
      if rows = [] then rest else .ask s (.of rows) rest
theorem mem_named {f : Form κ} {s : κ} {c : Int} : c ∈ named f s ↔ (s, c) ∈ askedIn f := by
  unfold named
  rw [List.mem_mergeSort, mem_dd, List.mem_map]
  constructor
  · rintro ⟨p, m, rfl⟩
    obtain ⟨m1, e⟩ := List.mem_filter.mp m
    have e := of_decide_eq_true e
    subst e
    exact m1
  · intro m
    exact ⟨(s, c), List.mem_filter.mpr ⟨m, decide_eq_true rfl⟩, rfl⟩
theorem evalR_of {ρ : κ → Int} {v : Int} : ∀ ps : List (Int × Form κ), evalR ρ v (.of ps) = (ps.find? fun p => decide (v = p.1)).map fun p => eval ρ p.2
  | [] => rfl
  | p :: ps => by
    show (if v = p.1 then _ else _) = _
    rw [List.find?_cons]
    by_cases e : v = p.1
    · rw [if_pos e, decide_eq_true e]
      rfl
    · rw [if_neg e, decide_eq_false e]
      exact evalR_of ps
theorem ite_some {α : Type} {p : Prop} [Decidable p] {x q : α} (h : (if p then none else some x) = some q) : x = q ∧ ¬ p := by
  by_cases c : p
  · rw [if_pos c] at h; cases h
  · rw [if_neg c] at h; exact ⟨Option.some.inj h, c⟩
theorem red_eval (lt : κ → κ → Bool) : ∀ (n : Nat) (f : Form κ) (ρ : κ → Int), eval ρ (redN lt n f) = eval ρ f
  | 0, f, ρ => rfl
  | n + 1, f, ρ => by
    have ih := red_eval lt n
    unfold redN
    cases hl : least lt f with
    | none => rfl
    | some s =>
      simp only
      generalize hrest : redN lt n (general s f) = rest
      have er : (s, ρ s) ∉ askedIn f → eval ρ rest = eval ρ f := fun h => by rw [← hrest, ih, eval_gen ρ s f h]
      have ei : eval ρ (redN lt n (put s (ρ s) f)) = eval ρ f := by rw [ih, eval_put, upd_self rfl]
      have ed : redN lt n (put s (ρ s) f) = (if s ∈ keysIn rest then redN lt n (put s (ρ s) rest) else rest) → eval ρ rest = eval ρ f := fun h => by
        rw [← ei, h]
        split
        · rw [ih, eval_put, upd_self rfl]
        · rfl
      generalize hg : (fun c => if redN lt n (put s c f) = (if s ∈ keysIn rest then redN lt n (put s c rest) else rest) then none else some (c, redN lt n (put s c f))) = g
      have key : ∀ cs : List Int, ((cs.filterMap g).find? fun p => decide (ρ s = p.1)).map (fun p => eval ρ p.2) = if ρ s ∈ cs ∧ g (ρ s) ≠ none then some (eval ρ f) else none := by
        intro cs
        induction cs with
        | nil => simp
        | cons c cs hc =>
          rw [List.filterMap_cons]
          by_cases e : c = ρ s
          · subst e
            cases eg : g (ρ s) with
            | none =>
              simp only
              rw [hc, eg]
              simp
            | some p =>
              have ep : p = (ρ s, redN lt n (put s (ρ s) f)) := by
                rw [← hg] at eg
                exact (ite_some eg).1.symm
              subst ep
              simp only
              rw [List.find?_cons]
              simp [ei]
          · cases eg : g c with
            | none =>
              simp only
              rw [hc]
              simp [Ne.symm e]
            | some p =>
              have ep : p.1 = c := by
                rw [← hg] at eg
                rw [← (ite_some eg).1]
              simp only
              rw [List.find?_cons, ep, decide_eq_false (Ne.symm e), hc]
              simp [Ne.symm e]
      have fin : ((if ρ s ∈ named f s ∧ g (ρ s) ≠ none then some (eval ρ f) else none : Option Int)).getD (eval ρ rest) = eval ρ f := by
        split
        · rfl
        · rename_i h
          show eval ρ rest = eval ρ f
          by_cases m : ρ s ∈ named f s
          · refine ed (Classical.byContradiction fun hn => h ⟨m, ?_⟩)
            rw [← hg]
            simp only
            rw [if_neg hn]
            exact fun z => by cases z
          · exact er fun q => m (mem_named.mpr q)
      by_cases he : (named f s).filterMap g = []
      · rw [if_pos he]
        have := key (named f s)
        rw [he] at this
        rw [← this] at fin
        exact fin
      · rw [if_neg he]
        show (evalR ρ (ρ s) (.of _)).getD (eval ρ rest) = _
        rw [evalR_of, key]
        exact fin
theorem named_lt (f : Form κ) (s : κ) : (named f s).Pairwise (· < ·) := by
  have h1 : (named f s).Pairwise fun a b => decide (a ≤ b) = true := List.pairwise_mergeSort (fun a b c h1 h2 => by simp only [decide_eq_true_eq] at h1 h2 ⊢; omega) (fun a b => by simp only [Bool.or_eq_true, decide_eq_true_eq]; omega) _
  have h2 : (named f s).Nodup := (List.mergeSort_perm _ _).nodup_iff.mpr (nodup_dd _)
  have h3 := h1.and h2
  exact h3.imp fun {a b} ⟨x, y⟩ => by
    simp only [decide_eq_true_eq] at x
    omega
theorem cols_of : ∀ ps : List (Int × Form κ), cols (.of ps) = ps.map (·.1)
  | [] => rfl
  | p :: ps => by
    show p.1 :: cols (.of ps) = p.1 :: ps.map (·.1)
    rw [cols_of ps]
theorem okR_of {N : Int → Prop} {E A : κ → Prop} : ∀ ps : List (Int × Form κ), (∀ p ∈ ps, N p.1 ∧ Ok N E A p.2) → OkR N E A (.of ps)
  | [], _ => trivial
  | p :: ps, h => ⟨(h p List.mem_cons_self).1, (h p List.mem_cons_self).2, okR_of ps fun q m => h q (List.mem_cons_of_mem _ m)⟩
theorem least_mem {lt : κ → κ → Bool} {f : Form κ} {s : κ} (h : least lt f = some s) : ∃ c, (s, c) ∈ askedIn f := by
  unfold least at h
  split at h
  · cases h
  · rename_i k ks e
    have m := fold_mem lt ks k
    rw [Option.some.inj h, ← e] at m
    obtain ⟨p, m1, rfl⟩ := List.mem_map.mp m
    exact ⟨p.2, m1⟩
theorem least_no {lt : κ → κ → Bool} {f : Form κ} (h : least lt f = none) : askedIn f = [] := by
  unfold least at h
  split at h
  · rename_i e
    exact List.map_eq_nil_iff.mp e
  · cases h
theorem red_ok (lt : κ → κ → Bool) {N : Int → Prop} {E : κ → Prop} : ∀ (n : Nat) (f : Form κ) (A : κ → Prop), Ok N E A f → Ok N E A (redN lt n f)
  | 0, f, A, h => h
  | n + 1, f, A, h => by
    have ih := red_ok lt (N := N) (E := E) n
    unfold redN
    cases hl : least lt f with
    | none => exact h
    | some s =>
      obtain ⟨c0, m0⟩ := least_mem hl
      have As : A s := (Ok.asked f h _ m0).1
      have hr : Ok N E A (redN lt n (general s f)) := ih _ _ (Ok.mono (fun k a => a.1) _ (Ok.gen f h))
      simp only
      generalize hrest : redN lt n (general s f) = rest at hr ⊢
      generalize hg : (fun c => if redN lt n (put s c f) = (if s ∈ keysIn rest then redN lt n (put s c rest) else rest) then none else some (c, redN lt n (put s c f))) = g
      have gs : ∀ c p, g c = some p → p = (c, redN lt n (put s c f)) := fun c p e => by
        rw [← hg] at e
        exact (ite_some e).1.symm
      by_cases he : (named f s).filterMap g = []
      · rw [if_pos he]
        exact hr
      · rw [if_neg he]
        refine ⟨As, ⟨?_, ?_⟩, okR_of _ fun p m => ?_, hr⟩
        · rw [cols_of]
          exact fun z => he (List.map_eq_nil_iff.mp z)
        · rw [cols_of, List.pairwise_map]
          refine List.Pairwise.filterMap _ (fun a b r x hx y hy => ?_) (named_lt f s)
          rw [gs a x hx, gs b y hy]
          exact r
        · obtain ⟨c, mc, e⟩ := List.mem_filterMap.mp m
          rw [gs c p e]
          have hN : N c := (Ok.asked f h _ (mem_named.mp mc)).2
          exact ⟨hN, ih _ _ (Ok.mono (fun k a => a.1) _ (Ok.put hN f h))⟩
/-! ### the reduced form, made of all values -/
def own (i : Nat) : Int := 5000 + 7 * (i : Int)
section
variable (names : List Int) (n : Nat)
def tab : List κ → (κ → Int) → Form κ → List Int
  | [], ρ, f => [eval ρ f]
  | s :: S, ρ, f => (names ++ [own (n - (S.length + 1))]).flatMap fun c => tab S (upd ρ s c) f
def Rch : List κ → (κ → Int) → (κ → Int) → Prop
  | [], ρ, σ => σ = ρ
  | s :: S, ρ, σ => ∃ c ∈ names ++ [own (n - (S.length + 1))], Rch S (upd ρ s c) σ
theorem tab_map {F : Int → Int} {f h : Form κ} : ∀ (S : List κ) (ρ : κ → Int), (∀ σ, Rch names n S ρ σ → F (eval σ f) = eval σ h) → (tab names n S ρ f).map F = tab names n S ρ h
  | [], ρ, q => by
    show [F (eval ρ f)] = [eval ρ h]
    rw [q ρ rfl]
  | s :: S, ρ, q => by
    unfold tab
    rw [List.map_flatMap]
    generalize hc : names ++ [own (n - (S.length + 1))] = cs
    have : ∀ c ∈ cs, (tab names n S (upd ρ s c) f).map F = tab names n S (upd ρ s c) h := fun c m => tab_map S _ fun σ r => q σ ⟨c, by rw [hc]; exact m, r⟩
    clear hc q
    induction cs with
    | nil => rfl
    | cons c cs ih =>
      rw [List.flatMap_cons, List.flatMap_cons, this c List.mem_cons_self, ih fun d m => this d (List.mem_cons_of_mem _ m)]
theorem tab_ext {f h : Form κ} (S : List κ) (ρ : κ → Int) (q : ∀ σ, Rch names n S ρ σ → eval σ f = eval σ h) : tab names n S ρ f = tab names n S ρ h := by
  have := tab_map names n (F := id) S ρ q
  rwa [List.map_id] at this
theorem tab_put {s : κ} {c : Int} {f : Form κ} : ∀ (S : List κ) (ρ : κ → Int), s ∉ S → tab names n S (upd ρ s c) f = tab names n S ρ (put s c f)
  | [], ρ, _ => by
    show [_] = [_]
    rw [eval_put]
  | t :: S, ρ, h => by
    have ne : s ≠ t := fun e => h (by rw [e]; exact List.mem_cons_self)
    unfold tab
    congr 1
    funext d
    rw [upd_comm ne]
    exact tab_put S _ fun m => h (List.mem_cons_of_mem _ m)
theorem tab_len {f : Form κ} : ∀ (S : List κ) (ρ : κ → Int), (tab names n S ρ f).length = (names.length + 1) ^ S.length
  | [], ρ => rfl
  | s :: S, ρ => by
    unfold tab
    rw [List.length_flatMap]
    have : ((names ++ [own (n - (S.length + 1))]).map fun c => (tab names n S (upd ρ s c) f).length) = List.replicate (names.length + 1) ((names.length + 1) ^ S.length) := by
      refine List.eq_replicate_iff.mpr ⟨by simp, fun x m => ?_⟩
      obtain ⟨c, _, rfl⟩ := List.mem_map.mp m
      exact tab_len S _
    rw [this, List.sum_replicate_nat, List.length_cons, Nat.pow_succ, Nat.mul_comm]
theorem rch_out {k : κ} : ∀ (S : List κ) {ρ σ : κ → Int}, Rch names n S ρ σ → k ∉ S → σ k = ρ k
  | [], ρ, σ, r, _ => by rw [show σ = ρ from r]
  | s :: S, ρ, σ, ⟨c, _, r⟩, h => by
    rw [rch_out S r fun m => h (List.mem_cons_of_mem _ m), upd_ne fun e => h (by rw [e]; exact List.mem_cons_self)]
theorem rch_ne {v : Int} (hv : v ∉ names) {k : κ} : ∀ (S : List κ) {ρ σ : κ → Int}, (∀ j, j < S.length → own (n - (j + 1)) ≠ v) → S.Nodup → Rch names n S ρ σ → k ∈ S → σ k ≠ v
  | [], ρ, σ, _, _, _, m => by cases m
  | s :: S, ρ, σ, ho, nd, ⟨c, mc, r⟩, m => by
    rw [List.nodup_cons] at nd
    by_cases e : k ∈ S
    · exact rch_ne hv S (fun j h => ho j (Nat.lt_succ_of_lt h)) nd.2 r e
    · obtain rfl : k = s := by
        rcases List.mem_cons.mp m with q | q
        · exact q
        · exact absurd q e
      rw [rch_out names n S r e, upd_at]
      rcases List.mem_append.mp mc with q | q
      · exact fun z => hv (z ▸ q)
      · rw [List.mem_singleton.mp q]
        exact ho S.length (Nat.lt_succ_self _)
end
section
variable (lt : κ → κ → Bool) (names : List Int) (every : List κ)
def canon : List κ → List Int → Form κ
  | [], told => match told.head? with
    | some t => if t ∈ names then .col t else (match every[((t - 5000) / 7).toNat]? with | some k => .cel k | none => .col t)
    | none => .col 0
  | s :: S, told =>
    let size := told.length / (names.length + 1)
    let last := told.drop (names.length * size)
    let rows := names.zipIdx.filterMap fun p =>
      let part := (told.drop (p.2 * size)).take size
      if part = last.map (fun t => if t = own (every.length - (S.length + 1)) then p.1 else t) then none else some (p.1, canon S part)
    if rows = [] then canon S last else .ask s (.of rows) (canon S last)
theorem block {g : Int → List Int} {L : Nat} : ∀ {cs : List Int} {k : Nat} {c : Int}, (∀ c ∈ cs, (g c).length = L) → cs[k]? = some c → ((cs.flatMap g).drop (k * L)).take L = g c
  | [], k, c, _, h => by cases h
  | d :: cs, 0, c, hL, h => by
    obtain rfl : d = c := Option.some.inj h
    rw [Nat.zero_mul, List.drop_zero, List.flatMap_cons, ← hL d List.mem_cons_self, List.take_left]
  | d :: cs, k + 1, c, hL, h => by
    have hd := hL d List.mem_cons_self
    rw [List.flatMap_cons, show (k + 1) * L = (g d).length + k * L by rw [hd, Nat.add_mul, Nat.one_mul, Nat.add_comm], ← List.drop_drop, List.drop_left]
    exact block (fun c m => hL c (List.mem_cons_of_mem _ m)) h
theorem block_last {g : Int → List Int} {L : Nat} {cs : List Int} {o : Int} (hL : ∀ c ∈ cs, (g c).length = L) : ((cs ++ [o]).flatMap g).drop (cs.length * L) = g o := by
  have e : (cs.flatMap g).length = cs.length * L := by
    rw [List.length_flatMap]
    have : cs.map (fun c => (g c).length) = List.replicate cs.length L := List.eq_replicate_iff.mpr ⟨by simp, fun x m => by
      obtain ⟨c, mc, rfl⟩ := List.mem_map.mp m
      exact hL c mc⟩
    rw [this, List.sum_replicate_nat]
  rw [List.flatMap_append, ← e, List.drop_left]
  simp
theorem filter_sub {β : Type} {G : Int → Option β} : ∀ {xs cs : List Int}, xs.Pairwise (· < ·) → cs.Pairwise (· < ·) → (∀ c ∈ cs, c ∈ xs) → (∀ c ∈ xs, c ∉ cs → G c = none) → xs.filterMap G = cs.filterMap G
  | [], cs, _, _, h, _ => by
    cases cs with
    | nil => rfl
    | cons c cs => exact absurd (h c List.mem_cons_self) (by simp)
  | x :: xs, cs, px, pc, h, hn => by
    rw [List.pairwise_cons] at px
    by_cases m : x ∈ cs
    · cases cs with
      | nil => cases m
      | cons c cs =>
        rw [List.pairwise_cons] at pc
        obtain rfl : c = x := by
          rcases List.mem_cons.mp m with e | m
          · exact e.symm
          · have a := pc.1 x m
            rcases List.mem_cons.mp (h c List.mem_cons_self) with e | q
            · exact e
            · have := px.1 c q
              omega
        rw [List.filterMap_cons, List.filterMap_cons, filter_sub px.2 pc.2 (fun d md => ?_) (fun d md nd => hn d (List.mem_cons_of_mem _ md) fun z => ?_)]
        · rcases List.mem_cons.mp (h d (List.mem_cons_of_mem _ md)) with e | q
          · have := pc.1 d md
            omega
          · exact q
        · rcases List.mem_cons.mp z with e | q
          · have := px.1 d md
            omega
          · exact nd q
    · rw [List.filterMap_cons, hn x List.mem_cons_self m]
      refine filter_sub px.2 pc (fun d md => ?_) (fun d md nd => hn d (List.mem_cons_of_mem _ md) nd)
      rcases List.mem_cons.mp (h d md) with e | q
      · exact absurd (e ▸ md) m
      · exact q
theorem least_is {f : Form κ} {s : κ} (h : ∃ c, (s, c) ∈ askedIn f) (h1 : ∀ p ∈ askedIn f, lt p.1 s = false) (h2 : ∀ p ∈ askedIn f, p.1 = s ∨ lt s p.1 = true) : least lt f = some s := by
  obtain ⟨c, m⟩ := h
  have hm : s ∈ (askedIn f).map (·.1) := List.mem_map.mpr ⟨_, m, rfl⟩
  have g1 : ∀ a ∈ (askedIn f).map (·.1), lt a s = false := fun a ma => by
    obtain ⟨p, mp, rfl⟩ := List.mem_map.mp ma
    exact h1 p mp
  have g2 : ∀ a ∈ (askedIn f).map (·.1), a = s ∨ lt s a = true := fun a ma => by
    obtain ⟨p, mp, rfl⟩ := List.mem_map.mp ma
    exact h2 p mp
  unfold least
  split
  · rename_i e
    rw [e] at hm
    cases hm
  · rename_i k ks e
    rw [e] at hm g1 g2
    rw [fold_least lt ks k hm g1 g2]
theorem fm_congr {α β : Type} {F G : α → Option β} : ∀ {xs : List α}, (∀ x ∈ xs, F x = G x) → xs.filterMap F = xs.filterMap G
  | [], _ => rfl
  | x :: xs, h => by rw [List.filterMap_cons, List.filterMap_cons, h x List.mem_cons_self, fm_congr fun y m => h y (List.mem_cons_of_mem _ m)]
theorem red_none {f : Form κ} (h : least lt f = none) : ∀ m, redN lt m f = f
  | 0 => rfl
  | m + 1 => by
    unfold redN
    rw [h]
theorem red_succ {n : Nat} {f : Form κ} {s : κ} (h : least lt f = some s) : redN lt (n + 1) f =
    (if (named f s).filterMap (fun c => if redN lt n (put s c f) = (if s ∈ keysIn (redN lt n (general s f)) then redN lt n (put s c (redN lt n (general s f))) else redN lt n (general s f)) then none else some (c, redN lt n (put s c f))) = [] then redN lt n (general s f)
    else .ask s (.of ((named f s).filterMap fun c => if redN lt n (put s c f) = (if s ∈ keysIn (redN lt n (general s f)) then redN lt n (put s c (redN lt n (general s f))) else redN lt n (general s f)) then none else some (c, redN lt n (put s c f)))) (redN lt n (general s f))) := by
  conv => lhs; unfold redN
  rw [h]
/-- the branches of a reduced form -/
def redRows (n : Nat) (f : Form κ) (s : κ) (rest : Form κ) : List (Int × Form κ) := (named f s).filterMap fun c => if redN lt n (put s c f) = (if s ∈ keysIn rest then redN lt n (put s c rest) else rest) then none else some (c, redN lt n (put s c f))
theorem red_rows {n : Nat} {f : Form κ} {s : κ} (h : least lt f = some s) : redN lt (n + 1) f =
    (if redRows lt n f s (redN lt n (general s f)) = [] then redN lt n (general s f) else .ask s (.of (redRows lt n f s (redN lt n (general s f)))) (redN lt n (general s f))) := red_succ lt h
theorem redRows_mem {n : Nat} {f : Form κ} {s : κ} {rest : Form κ} {p : Int × Form κ} (h : p ∈ redRows lt n f s rest) : ∃ c ∈ named f s, p = (c, redN lt n (put s c f)) := by
  obtain ⟨c, mc, e⟩ := List.mem_filterMap.mp h
  exact ⟨c, mc, (ite_some e).1.symm⟩
theorem redRows_len {n : Nat} {f : Form κ} {s : κ} {rest : Form κ} : (redRows lt n f s rest).length ≤ (named f s).length := List.length_filterMap_le _ _
/-- what a walk over the colours has collected -/
theorem redRows_step {n : Nat} {f : Form κ} {s : κ} {rest : Form κ} : redRows lt n f s rest = (named f s).filterMap fun c => if redN lt n (put s c f) = (if keysIn rest |>.any (fun k => decide (k = s)) then redN lt n (put s c rest) else rest) then none else some (c, redN lt n (put s c f)) := by
  unfold redRows
  have e : ((keysIn rest).any fun k => decide (k = s)) = true ↔ s ∈ keysIn rest := by
    rw [List.any_eq_true]
    exact ⟨fun ⟨k, mk, e⟩ => by rw [← of_decide_eq_true e]; exact mk, fun m => ⟨s, m, decide_eq_true rfl⟩⟩
  simp only [e]
theorem least_none {f : Form κ} (h : askedIn f = []) : least lt f = none := by
  unfold least
  rw [h]
  rfl
theorem own_inj {i j : Nat} (h : own i = own j) : i = j := by
  unfold own at h
  omega
theorem zip_filter {β : Type} {F : Int × Nat → Option β} {G : Int → Option β} (xs : List Int) (h : ∀ p ∈ xs.zipIdx, F p = G p.1) : xs.zipIdx.filterMap F = xs.filterMap G := by
  have e : xs.zipIdx.filterMap F = xs.zipIdx.filterMap fun p => G p.1 := fm_congr h
  rw [e]
  have e2 : xs.filterMap G = (xs.zipIdx.map Prod.fst).filterMap G := by rw [List.zipIdx_map_fst]
  rw [e2, List.filterMap_map]
  rfl
theorem canon_red (asym : ∀ a b, lt a b = true → lt b a = false) (hev : every.Pairwise fun a b => lt a b = true) (hn : names.Pairwise (· < ·)) (ho : ∀ i, i < every.length → own i ∉ names) :
    ∀ (S pre : List κ) (ρ : κ → Int) (f : Form κ) (m : Nat), every = pre ++ S → (∀ (i : Nat) k, pre[i]? = some k → ρ k = own i) → Ok (fun c => c ∈ names) (fun k => k ∈ every) (fun k => k ∈ S) f → S.length ≤ m →
      canon names every S (tab names every.length S ρ f) = redN lt m f
  | [], pre, ρ, f, m, he, hρ, ok, _ => by
    rw [List.append_nil] at he
    cases f with
    | col c =>
      rw [red_none lt (least_none lt rfl)]
      show (if c ∈ names then Form.col c else _) = Form.col c
      rw [if_pos (show c ∈ names from ok)]
    | cel k =>
      rw [red_none lt (least_none lt rfl)]
      obtain ⟨i, hi, e⟩ := List.getElem_of_mem (show k ∈ every from ok)
      have hi' : every[i]? = some k := by rw [List.getElem?_eq_getElem hi, e]
      have q : ρ k = own i := hρ i k (by rw [← he]; exact hi')
      show (if ρ k ∈ names then _ else (match every[((ρ k - 5000) / 7).toNat]? with | some k => Form.cel k | none => .col (ρ k))) = Form.cel k
      rw [q, if_neg (ho i hi), show ((own i - 5000) / 7).toNat = i by unfold own; omega, hi']
    | ask k rows o => exact absurd ok.1 (by simp)
  | s :: S, pre, ρ, f, m, he, hρ, ok, hm => by
    have nd : every.Pairwise fun a b => a ≠ b := hev.imp fun {a b} h e => by
      subst e
      have := asym a a h
      rw [h] at this
      cases this
    have ndS : (s :: S).Nodup := by
      have : (pre ++ s :: S).Pairwise fun a b => a ≠ b := he ▸ nd
      exact (List.pairwise_append.mp this).2.1
    have ltS : ∀ k ∈ S, lt s k = true := by
      have : (pre ++ s :: S).Pairwise fun a b => lt a b = true := he ▸ hev
      exact (List.pairwise_cons.mp (List.pairwise_append.mp this).2.1).1
    rw [List.nodup_cons] at ndS
    obtain ⟨sS, ndS⟩ := ndS
    have el : every.length - (S.length + 1) = pre.length := by
      rw [he, List.length_append, List.length_cons]
      omega
    have hle : S.length + 1 ≤ every.length := by
      rw [he, List.length_append, List.length_cons]
      omega
    generalize hoo : own (every.length - (S.length + 1)) = o
    have ono : o ∉ names := by
      rw [← hoo]
      exact ho _ (by
        have := congrArg List.length he
        rw [List.length_append, List.length_cons] at this
        omega)
    generalize hρ1 : upd ρ s o = ρ'
    have hρ' : ∀ (i : Nat) k, (pre ++ [s])[i]? = some k → ρ' k = own i := by
      intro i k hk
      have ne : ∀ j, pre[j]? = some s → False := fun j hj => by
        have : (pre ++ s :: S).Pairwise fun a b => a ≠ b := he ▸ nd
        exact (List.pairwise_append.mp this).2.2 s (List.mem_of_getElem? hj) s List.mem_cons_self rfl
      by_cases hi : i < pre.length
      · rw [List.getElem?_append_left hi] at hk
        rw [← hρ1, upd_ne fun e => ne i (by rw [← e]; exact hk)]
        exact hρ i k hk
      · rw [List.getElem?_append_right (by omega)] at hk
        have : i - pre.length = 0 := by
          cases h : i - pre.length with
          | zero => rfl
          | succ j => rw [h] at hk; cases hk
        rw [this] at hk
        obtain rfl : s = k := Option.some.inj hk
        rw [← hρ1, upd_at, ← hoo, el, show i = pre.length by omega]
    have okg : Ok (fun c => c ∈ names) (fun k => k ∈ every) (fun k => k ∈ S) (general s f) := Ok.mono (fun k a => (List.mem_cons.mp a.1).resolve_left a.2) _ (Ok.gen f ok)
    have okp : ∀ c ∈ names, Ok (fun c => c ∈ names) (fun k => k ∈ every) (fun k => k ∈ S) (put s c f) := fun c hc => Ok.mono (fun k a => (List.mem_cons.mp a.1).resolve_left a.2) _ (Ok.put hc f ok)
    have R : ∀ (h : Form κ) (k : Nat), Ok (fun c => c ∈ names) (fun k => k ∈ every) (fun k => k ∈ S) h → S.length ≤ k → canon names every S (tab names every.length S ρ' h) = redN lt k h := fun h k oh hk =>
      canon_red asym hev hn ho S (pre ++ [s]) ρ' h k (by rw [he, List.append_assoc]; rfl) hρ' oh hk
    have out : ∀ σ, Rch names every.length S ρ' σ → σ s = o := fun σ r => by rw [rch_out names _ S r sS, ← hρ1, upd_at]
    have Tg : tab names every.length S ρ' f = tab names every.length S ρ' (general s f) := tab_ext names _ S ρ' fun σ r => (eval_gen σ s f fun m => ono (by
      have := (Ok.asked f ok _ m).2
      rwa [out σ r] at this)).symm
    have Tp : ∀ c, tab names every.length S (upd ρ s c) f = tab names every.length S ρ' (put s c f) := fun c => by
      rw [← tab_put names _ S ρ' sS, ← hρ1, upd_upd]
    have Tm : ∀ c, (tab names every.length S ρ' (general s f)).map (fun t => if t = o then c else t) = tab names every.length S ρ' (put s c (general s f)) := fun c => tab_map names _ (F := fun t => if t = o then c else t) S ρ' fun σ r => by
      rw [eval_put]
      refine eval_swap (out σ r) ono sS (fun k hk ne => ?_) _ okg
      by_cases kS : k ∈ S
      · refine rch_ne names _ ono S (fun j hj => ?_) ndS r kS
        rw [← hoo]
        intro z
        have := own_inj z
        omega
      · rw [rch_out names _ S r kS]
        rw [he] at hk
        rcases List.mem_append.mp hk with q | q
        · obtain ⟨i, hi, e⟩ := List.getElem_of_mem q
          have hi' : pre[i]? = some k := by rw [List.getElem?_eq_getElem hi, e]
          rw [hρ' i k (by rw [List.getElem?_append_left hi]; exact hi'), ← hoo, el]
          intro z
          have := own_inj z
          omega
        · exact absurd ((List.mem_cons.mp q).resolve_left ne) kS
    have Tn : ∀ c, (s, c) ∉ askedIn f → tab names every.length S ρ' (put s c f) = tab names every.length S ρ' (put s c (general s f)) := fun c hc => tab_ext names _ S ρ' fun σ r => by
      rw [eval_put, eval_put]
      exact (eval_gen (upd σ s c) s f (by rw [upd_at]; exact hc)).symm
    generalize hB : (names.length + 1) ^ S.length = B
    have hlen : (tab names every.length (s :: S) ρ f).length / (names.length + 1) = B := by
      rw [tab_len, List.length_cons, Nat.pow_succ, hB, Nat.mul_div_cancel _ (by omega)]
    have hL : ∀ c, (tab names every.length S (upd ρ s c) f).length = B := fun c => by rw [tab_len, hB]
    have et : tab names every.length (s :: S) ρ f = (names ++ [o]).flatMap fun c => tab names every.length S (upd ρ s c) f := by
      rw [← hoo]
      rfl
    have last : (tab names every.length (s :: S) ρ f).drop (names.length * B) = tab names every.length S ρ' (general s f) := by
      rw [et, block_last (L := B) fun c _ => hL c, ← Tg, ← hρ1]
    have part : ∀ p ∈ names.zipIdx, ((tab names every.length (s :: S) ρ f).drop (p.2 * B)).take B = tab names every.length S ρ' (put s p.1 f) := fun p mp => by
      have e := List.mem_zipIdx_iff_getElem?.mp mp
      rw [et, block (L := B) (c := p.1) (fun c _ => hL c) (by rw [List.getElem?_append_left (List.getElem?_eq_some_iff.mp e).1]; exact e)]
      exact Tp p.1
    show (if _ = [] then _ else _) = _
    rw [hlen, last]
    generalize hG : (fun c => if tab names every.length S ρ' (put s c f) = tab names every.length S ρ' (put s c (general s f)) then none else some (c, canon names every S (tab names every.length S ρ' (put s c f)))) = G
    rw [zip_filter (G := G) names fun p mp => by
      rw [← hG]
      simp only
      rw [part p mp, hoo, Tm]]
    rw [R _ m okg (by rw [List.length_cons] at hm; omega)]
    by_cases as : ∃ c, (s, c) ∈ askedIn f
    · obtain ⟨m, rfl⟩ : ∃ k, m = k + 1 := ⟨m - 1, by rw [List.length_cons] at hm; omega⟩
      have hm' : S.length ≤ m := by rw [List.length_cons] at hm; omega
      have lf : least lt f = some s := by
        refine least_is lt as (fun p mp => ?_) (fun p mp => ?_)
        · rcases List.mem_cons.mp (Ok.asked f ok p mp).1 with e | q
          · rw [e]
            cases h : lt s s with
            | false => rfl
            | true => have := asym s s h; rw [h] at this; cases this
          · exact asym _ _ (ltS _ q)
        · rcases List.mem_cons.mp (Ok.asked f ok p mp).1 with e | q
          · exact .inl e
          · exact .inr (ltS _ q)
      have rr : redN lt (m + 1) (general s f) = redN lt m (general s f) := by rw [← R _ _ okg hm', ← R _ (m + 1) okg (by omega)]
      rw [rr, red_succ lt lf]
      generalize hrest : redN lt m (general s f) = rest
      have okr : Ok (fun c => c ∈ names) (fun k => k ∈ every) (fun k => k ∈ S) rest := by rw [← hrest]; exact red_ok lt m _ _ okg
      have Tr : ∀ c, tab names every.length S ρ' (put s c rest) = tab names every.length S ρ' (put s c (general s f)) := fun c => tab_ext names _ S ρ' fun σ r => by rw [eval_put, eval_put, ← hrest, red_eval]
      have oks : ∀ c ∈ names, ∀ h : Form κ, Ok (fun c => c ∈ names) (fun k => k ∈ every) (fun k => k ∈ S) h → Ok (fun c => c ∈ names) (fun k => k ∈ every) (fun k => k ∈ S) (put s c h) := fun c hc h oh => Ok.mono (fun k a => a.1) _ (Ok.put hc h oh)
      have Rc : ∀ c ∈ names, (if s ∈ keysIn rest then redN lt m (put s c rest) else rest) = redN lt m (put s c (general s f)) := by
        intro c hc
        split
        · rw [← R _ m (oks c hc _ okr) hm', Tr, R _ m (oks c hc _ okg) hm']
        · rename_i nk
          rw [← R _ m (oks c hc _ okg) hm', ← Tr, put_id rest nk]
          rw [← hrest, tab_ext names _ S ρ' (f := redN lt m (general s f)) (h := general s f) fun σ _ => by rw [red_eval], R _ m okg hm']
      have sub : ∀ c ∈ named f s, c ∈ names := fun c hc => (Ok.asked f ok _ (mem_named.mp hc)).2
      have rows : names.filterMap G = (named f s).filterMap fun c => if redN lt m (put s c f) = (if s ∈ keysIn rest then redN lt m (put s c rest) else rest) then none else some (c, redN lt m (put s c f)) := by
        rw [filter_sub hn (named_lt f s) sub fun c _ nc => by
          rw [← hG]
          simp only
          rw [if_pos (Tn c fun q => nc (mem_named.mpr q))]]
        refine fm_congr fun c hc => ?_
        have cn := sub c hc
        rw [← hG]
        simp only
        rw [Rc c cn, R _ m (okp c cn) hm']
        by_cases e : tab names every.length S ρ' (put s c f) = tab names every.length S ρ' (put s c (general s f))
        · rw [if_pos e, if_pos (by rw [← R _ m (okp c cn) hm', ← R _ m (oks c cn _ okg) hm', e])]
        · rw [if_neg e, if_neg fun z => e (tab_ext names _ S ρ' fun σ _ => by rw [← red_eval lt m (put s c f), z, red_eval])]
      rw [rows]
    · have nas : ∀ c, (s, c) ∉ askedIn f := fun c h => as ⟨c, h⟩
      have eg : general s f = f := gen_id f ok nas
      have : names.filterMap G = [] := by
        rw [List.filterMap_eq_nil_iff]
        intro c _
        rw [← hG]
        simp only
        rw [if_pos (Tn c (nas c))]
      rw [if_pos this, eg]
end
end Fo
end Lw
/-! sorted(set(xs)) of a list of ints, of any number. -/
namespace Lw
open PySem PySem.Spec PyProof.Rows L2 Evl
abbrev setE (w : World) : Obj := { cls := .type "set", dict := none, data := .set #[] 0 (.fresh 0 0 (!w.params.followText "set-order")) }
section
variable {P : Program} {w : World} {A : Around} {E : Value → Shared → Prop} {s : Shared}
/-- a new set, filled by what is handed in -/
theorem set_made {a : Value} {R : Shared → Prop}
    (h : codeAny (model P w) A.in1 (.call (.builtin "set.__init__") ⟨[.ref s.heap.objs.size, a], []⟩) (wants (fun r z => r = .none ∧ R z) E) { s with heap := s.heap.push (setE w) }) :
    wpAny (model P w) A (call (.type "set") [a]) (fun v z => v = .ref s.heap.objs.size ∧ R z) E s := by
  have fc := F.called_set
  obtain ⟨_, _, mro⟩ := fc.mro
  have made := fc.made
  have sub := fc.sub
  have nt := fc.notType
  have cc := fc.canCreate
  have tc := F.typeCall_set_1 a
  have il := fc.init.lookup
  have ib := fc.init.bind (.ref s.heap.objs.size)
  have hT : Shared.TypeIs { s with heap := s.heap.push (setE w) } (.ref s.heap.objs.size) "set" := ⟨_, Heap.get?_push_size _ rfl, rfl⟩
  apply wpAny_call
  apply codeAny_of_tree
  show wpAny _ _ (callAny (.type "set") ⟨[a], []⟩) _ _ _
  refine wpAny_pure ⟨Code.quiet_builtin _ (by decide +kernel), ?_⟩
  apply codeAny_builtin F.entry_type_call
  rw [Around.under_plain (weight_type_call_type ..) rfl]
  repeat (any_goals (first | assumption | wp_step))
  refine codeAny_mono (code_set_led1 a (E := fun e z => E e z) (Q₁ := fun o z => o = .ref s.heap.objs.size ∧ z = { s with heap := s.heap.push (setE w) }) ⟨rfl, rfl⟩) fun r z hr => ?_
  match r, hr with
  | .error _, hr => exact hr
  | .ok (.ret o), hr =>
    obtain ⟨e1, e2⟩ := hr
    subst e1 e2
    repeat (any_goals (first | assumption | wp_step))
    refine codeAny_mono h fun r2 z2 hr2 => ?_
    match r2, hr2 with
    | .error _, hr2 => exact hr2
    | .ok (.ret o2), hr2 =>
      obtain ⟨e3, q⟩ := hr2
      subst e3
      repeat (any_goals (first | assumption | wp_step))
      exact ⟨rfl, q⟩
theorem set_init_list {S l : Addr} {items : Array Value} {ns : List Int} {R : Shared → Prop} (hh : A.handled = none) (hS : s.heap.get? S = some (setE w)) (hl : s.heap.IsList l items) (ne : l ≠ S) (hi : IntsAre items.toList ns) (room : ns.length + 1 < scanBound)
    (q : ∀ h' k c, SetR w h' S (fun j => decide (j ∈ ns)) c → c ≤ ns.length → (∀ b o, b ≠ S → s.heap.get? b = some o → h'.get? b = some o) → R { s with heap := h', toks := k }) :
    codeAny (model P w) A (.call (.builtin "set.__init__") ⟨[.ref S, .ref l], []⟩) (wants (fun r z => r = .none ∧ R z) E) s := by
  have fc := F.called_set
  have size : items.size = ns.length := by
    have := hi.length
    rwa [Array.length_toList] at this
  have hT : s.TypeIs (.ref S) "set" := ⟨_, hS, rfl⟩
  have sub1 := F.sub_list_set
  have sub2 := F.sub_list_frozenset
  have nd : (Value.type "list" == Value.type "dict") = false := by decide
  have hl0 := hl
  obtain ⟨⟨cl, di, da, sl⟩, ho, hc, n, hd⟩ := hl
  dsimp only at hc hd
  subst hc hd
  apply codeAny_call_builtin fc.init.plain F.entry_set_init
  refine check_set_init_1 hT ?_
  unfold Builtin.«set.__init__» noKeywords Builtin.Frozenset.updateFrom
  generalize hI : pyIter = it
  wp_walk
  subst hI
  have lS : S < s.heap.objs.size := Heap.lt_size hS
  have ll : l < s.heap.objs.size := Heap.lt_size ho
  refine wpAny_pyIter_list hl0 ?_
  refine wpAny_bind (wpAny_runValue ?_)
  refine set_update_ints (ns := ns) ((Walks.list (by simpa using hh) _ l (Nat.ne_of_lt ll) items).toS) S ?_ size room (fun i v hv => ?_) _ 0 _ rfl (Nat.zero_le _) ⟨⟨_, Heap.get?_push_size _ rfl, rfl, rfl⟩, hl0.push _⟩ ⟨0, Nat.le_refl 0, setR_new_at (Heap.get?_push_of_some _ hS)⟩ fun z c hm hc R0 => ?_
  · intro m
    rcases List.mem_cons.mp m with m | m
    · exact absurd lS (by rw [m]; exact Nat.lt_irrefl _)
    · exact ne (List.mem_singleton.mp m).symm
  · have lt : i < ns.length := by rw [← size]; exact (Array.getElem?_eq_some_iff.mp hv).1
    obtain ⟨t, e⟩ := hi.int_at i v (by rw [Array.getElem?_toList]; exact hv)
    refine ⟨ns[i], t, List.getElem?_eq_getElem lt, ?_⟩
    rw [e, List.getD_eq_getElem?_getD, List.getElem?_eq_getElem lt] <;> rfl
  · obtain ⟨h', g2, d2, k2, o2⟩ := z
    have e1 : g2 = s.gens := hm.gens
    have e2 : d2 = s.drawn := hm.drawn
    have e3 : o2 = s.os := hm.os
    subst e1 e2 e3
    refine wpAny_pure (wpAny_pure ⟨rfl, q h' k2 c R0 (by rw [← size]; exact hc) fun b o nb e => ?_⟩)
    refine hm.heap b o (fun m => ?_) (Heap.get?_push_of_some _ e)
    rcases List.mem_cons.mp m with m | m
    · exact nb m
    · exact absurd (Heap.lt_size e) (by rw [List.mem_singleton.mp m]; exact Nat.lt_irrefl _)
theorem set_of_list {l : Addr} {items : Array Value} {ns : List Int} {Q : Value → Shared → Prop} (hh : A.handled = none) (hl : s.heap.IsList l items) (hi : IntsAre items.toList ns) (room : ns.length + 1 < scanBound)
    (q : ∀ h' k c, SetR w h' s.heap.objs.size (fun j => decide (j ∈ ns)) c → c ≤ ns.length → (∀ b o, s.heap.get? b = some o → h'.get? b = some o) → Q (.ref s.heap.objs.size) { s with heap := h', toks := k }) :
    wpAny (model P w) A (call (.type "set") [.ref l]) Q E s := by
  have ll : l < s.heap.objs.size := let ⟨_, ho, _⟩ := hl; Heap.lt_size ho
  refine wpAny_mono (set_made (R := fun z => Q (.ref s.heap.objs.size) z) (set_init_list (A := A.in1) (by simpa using hh) (Heap.get?_push_size _ rfl) (hl.push _) (Nat.ne_of_lt ll) hi room fun h' k c R0 hc kp => ?_)) (fun v z h => by rw [h.1]; exact h.2) fun _ _ h => h
  exact q h' k c R0 hc fun b o e => kp b o (Nat.ne_of_lt (Heap.lt_size e)) (Heap.get?_push_of_some _ e)
theorem sorted_of_set {a : Addr} {S : Int → Bool} {n : Nat} {Q : Value → Shared → Prop} (R : SetR w s.heap a S n) (hh : A.handled = none)
    (q : ∀ z p (out : Array Value) (c : Nat) (ns : List Int), (∀ b o, s.heap.get? b = some o → z.heap.get? b = some o) → z.gens = s.gens → z.os = s.os → s.heap.objs.size ≤ p → z.heap.get? p = some (seqObj "list" out c) →
      IntsAre out.toList ns → ns.Pairwise (· < ·) → (∀ k, k ∈ ns ↔ S k = true) → ns.length = n → n < scanBound → Q (.ref p) z) : wpAny (model P w) A (call (.builtin "sorted") [.ref a]) Q E s := by
  obtain ⟨o, es, ep, t, ho, ex, hd, good, nodup, mem, room, fit, size, ris, led⟩ := R
  apply Calls.call_function_entry kind_sorted plain_sorted entry_sorted (args_sorted1 _)
  unfold Builtin.«sorted»
  refine wpAny_bind (m := checkCount "sorted" 1 1 _) (wpAny_pure ?_)
  apply wpAny_bind
  refine collect_set (A := A.in1) hh ⟨o, ho, ex.1, hd⟩ fit room ris led fun z vs keep above hg hos pm => ?_
  have lv : vs.length = n := by rw [pm.length_eq, List.length_map, Array.length_toList, size]
  have room' : n < scanBound := by rw [← size]; exact room
  have isI : ∀ v ∈ vs, ∃ k tk, v = Value.int k tk := fun v hv => by
    obtain ⟨e, he, ev⟩ := List.mem_map.mp (pm.mem_iff.mp hv)
    obtain ⟨k, tk, h1, _⟩ := good e he
    exact ⟨k, tk, by rw [← ev, h1]⟩
  have hI := ints_of vs isI
  have line : vs.length ≤ sizeLine := by
    rw [lv, sizeLine_eq]
    unfold scanBound at room'
    omega
  refine wpAny_bind (wpAny_newList ?_ line)
  have hL : (z.heap.push (seqObj "list" vs.toArray 0)).get? z.heap.objs.size = some (seqObj "list" vs.toArray 0) := Heap.get?_push_size _ rfl
  apply wpAny_bind
  apply wpAny_holding
  refine wpAny_call_entry slot_list_sort ⟨_, hL, rfl⟩ entry_list_sort ?_ (args_list_sort _)
  refine list_sort_treeAny hL hI line fun out ns is perm asc => ⟨_, rfl, ?_⟩
  refine wpAny_pure ⟨_, rfl, ?_⟩
  have pn : ns.Perm (es.toList.map keyOf) := by
    have h := pm.map Builtin.Re.reRawOf
    rw [List.map_map] at h
    exact perm.trans h
  obtain ⟨c, hc⟩ := sortedHeap_at (vs := vs) (out := out) hL
  refine q _ _ out c ns (fun b u e => ?_) hg hos above hc is (lt_of_le_nodup ns asc (pn.nodup_iff.mpr nodup)) (fun k => ?_) ?_ room'
  · have e' := keep b u e
    have lt := Heap.lt_size e'
    refine Eq.trans (sortedHeap_old (Nat.ne_of_lt lt) ?_) (Heap.get?_push_of_some _ e')
    rw [Heap.size_push]
    exact Nat.lt_succ_of_lt lt
  · rw [pn.mem_iff, mem]
  · rw [pn.length_eq, List.length_map, Array.length_toList, size]
end
section
variable {X : Cx}
/-- set(xs), xs a list of ints -/
def rSetI (K : PySem.W.Frag) (w : World) : List V → Hp → VK → Prop := fun vs H Q => ∃ (l : Addr) (ns : List Int), vs = [V.ref l] ∧ SqL K H l (ns.map V.int) ∧ ns.length + 1 < scanBound ∧
  ∀ a c, H a = none → c ≤ ns.length → Q (.ref a) (upd H a (SetO w a (fun j => decide (j ∈ ns)) c))
theorem cr_setI (hc : X.calm = true) : CallR X (.type "set") (rSetI X.K X.w) := by
  intro pins s σ H vs us Q I r h
  obtain ⟨l, ns, rfl, hl, room, q⟩ := h
  rw [Vals.ref1 r]
  obtain ⟨its, rv, pl, _⟩ := I.list hl
  refine set_of_list (I.ok.hd hc) pl.isList (by simpa using rv.ints) room fun h' k c R hc keep => ?_
  exact ⟨.ref s.heap.objs.size, upd H s.heap.objs.size (SetO X.w s.heap.objs.size (fun j => decide (j ∈ ns)) c), I.laid (t' := k) keep (Nat.le_refl _) (setO_new R), rfl, q _ c (I.hok.fresh (Nat.le_refl _)) hc⟩
/-- sorted(s), s a set of ints of any number -/
def rSortSI (w : World) : List V → Hp → VK → Prop := fun vs H Q => ∃ (a : Addr) (S : Int → Bool) (n : Nat), vs = [V.ref a] ∧ H a = some (SetO w a S n) ∧
  ∀ (ns : List Int) (p : Addr), ns.Pairwise (· < ·) → (∀ k : Int, k ∈ ns ↔ S k = true) → ns.length = n → H p = none → Q (.ref p) (upd H p (.lst (ns.map V.int)))
theorem cr_sortSI (hc : X.calm = true) : CallR X (.builtin "sorted") (rSortSI X.w) := by
  intro pins s σ H vs us Q I r h
  obtain ⟨a, S, n, rfl, ha, q⟩ := h
  rw [Vals.ref1 r]
  refine sorted_of_set (setO_get I ha) (I.ok.hd hc) fun z p out c ns keep hg hos hp hget is asc mem len room => ?_
  have line : (ns.map V.int).length ≤ sizeLine := by
    rw [List.length_map, len, sizeLine_eq]
    unfold scanBound at room
    omega
  have fresh := I.hok.fresh hp
  obtain ⟨hz, gz, dz, kz, oz⟩ := z
  cases hos
  exact ⟨.ref p, upd H p (.lst (ns.map V.int)), I.call (ch := []) (Un.laid keep hp fresh) (I.hok.laid keep hp ⟨line, out.toList, c, vals_of_ints is, hget⟩) (show AllBare gz from (show gz = s.gens from hg) ▸ I.bare) (fun _ m => nomatch m), rfl, q ns p asc mem len fresh⟩
end
end Lw
/-! Set comprehensions of ints with a test, over a list. -/
namespace Lw
open PySem PySem.Spec PyProof.Rows L2 Evl
theorem scLf {w : World} {K : PySem.W.Frag} {a : Addr} {xs : List V} {g : TG} {te : TE} {tt : TT} {vs : List Nat} {σ : L2.St} {H1 : Hp} {D : Addr} {Qd : Hp → Prop} (f : V → Option Int) (C : List Int) (hC : C.length ≤ 1000) (hD : H1 D = none) (hx : SqL K H1 a xs)
    (hf : ∀ x ∈ xs, ∀ k, f x = some k → k ∈ C)
    (turn : ∀ (i : Nat) x, xs[i]? = some x → ∀ H, Ex H1 H → ∀ (Q1 : VK) (Q2 : Hp → Prop), (∀ c G, f x = some c → Ex H G → Q1 (.int c) G) → (∀ G, f x = none → Ex H G → Q2 G) → g x (wipe σ vs) H fun σ2 H2 => wipe σ2 vs = wipe σ vs ∧ tt σ2 H2 fun b H3 => if b = true then te σ2 H3 Q1 else Q2 H3)
    (done : ∀ (H' : Hp) (S : Int → Bool) (ds : List Int), Ex H1 H' → H' D = some (SetO w D S ds.length) → ds.Nodup → (∀ k, S k = true ↔ k ∈ ds) → (∀ k, k ∈ ds ↔ ∃ x ∈ xs, f x = some k) → ds.length ≤ C.length → Qd H') :
    ∃ W : Nat → Nat → Hp → Prop, (∃ m, W 0 m (upd H1 D (SetO w D (fun _ => false) 0))) ∧ ∀ i m G, W i m G → ((Itl K a).stop i G ∧ Qd G) ∨
      ((Itl K a).go i G ∧ ∃ Nx : Hp → Prop, (∀ G', Nx G' → ∃ m', m' < m ∧ W (i + 1) m' G') ∧ ∀ x G', (Itl K a).yld i G x G' → g x (wipe σ vs) G' fun σ2 G2 => wipe σ2 vs = wipe σ vs ∧ tt σ2 G2 fun b G3 =>
        if b = true then te σ2 G3 fun y G4 => ∃ (c : Int) (S : Int → Bool) (n : Nat), y = .int c ∧ G4 D = some (SetO w D S n) ∧ n + 1 < scanBound ∧
          Nx (upd G4 D (SetO w D (fun j => S j || decide (j = c)) (if S c = true then n else n + 1))) else Nx G3) := by
  let Inn : Nat → Hp → Prop := fun i G => Ex H1 G ∧ ∃ (S : Int → Bool) (ds : List Int), G D = some (SetO w D S ds.length) ∧ ds.Nodup ∧ (∀ k, S k = true ↔ k ∈ ds) ∧ (∀ k, k ∈ ds ↔ ∃ x ∈ xs.take i, f x = some k)
  have le : ∀ {i : Nat} {G : Hp}, Inn i G → ∀ (S : Int → Bool) (ds : List Int), G D = some (SetO w D S ds.length) → ds.Nodup → (∀ k, k ∈ ds → ∃ x ∈ xs.take i, f x = some k) → ds.length ≤ C.length := fun _ S ds _ nd h => by
    have sub : ∀ k ∈ ds, k ∈ C := fun k m => by
      obtain ⟨x, mx, e⟩ := h k m
      exact hf x (List.mem_of_mem_take mx) k e
    exact nodup_len nd sub
  refine ⟨fun i m G => m = xs.length - i ∧ i ≤ xs.length ∧ Inn i G, ⟨xs.length, by simp, Nat.zero_le _, Ex.new hD, _, [], upd_same, List.nodup_nil, fun k => by simp, fun k => by simp⟩, ?_⟩
  rintro i m G ⟨rfl, hi, inn⟩
  obtain ⟨e, S, ds, hS, nd, hk, hm⟩ := id inn
  have hq := ex_l e hx
  have hle := le inn S ds hS nd fun k m => (hm k).mp m
  by_cases lt : i < xs.length
  · have gx : xs[i]? = some xs[i] := List.getElem?_eq_getElem lt
    refine .inr ⟨⟨xs, xs[i], hq, gx⟩, Inn (i + 1), fun G' p => ⟨xs.length - (i + 1), by omega, rfl, lt, p⟩, fun x G' y => ?_⟩
    obtain ⟨rfl, y⟩ := y
    obtain rfl : x = xs[i] := Option.some.inj ((y xs hq).symm.trans gx)
    have tk : ∀ k, (∃ x ∈ xs.take (i + 1), f x = some k) ↔ (∃ x ∈ xs.take i, f x = some k) ∨ f xs[i] = some k := fun k => by
      rw [List.take_add_one, gx]
      constructor
      · rintro ⟨x, m, h⟩
        rcases List.mem_append.mp m with m | m
        · exact .inl ⟨x, m, h⟩
        · have : x = xs[i] := by simpa using m
          subst this
          exact .inr h
      · rintro (⟨x, m, h⟩ | h)
        · exact ⟨x, List.mem_append_left _ m, h⟩
        · exact ⟨_, List.mem_append_right _ (by simp), h⟩
    refine turn i _ gx _ e _ _ (fun c G4 ec e4 => ⟨c, S, ds.length, rfl, e4 _ _ hS, ?_, Ex.mut (e.trans e4) hD, (fun j => S j || decide (j = c)), if S c = true then ds else ds ++ [c], ?_, ?_, fun k => ?_, fun k => ?_⟩) (fun G4 en e4 => ⟨e.trans e4, S, ds, e4 _ _ hS, nd, hk, fun k => ?_⟩)
    · show ds.length + 1 < 4096
      omega
    · rw [upd_same]
      by_cases sc : S c = true
      · rw [if_pos sc, if_pos sc]
      · rw [if_neg sc, if_neg sc, List.length_append]
        rfl
    · by_cases sc : S c = true
      · rw [if_pos sc]; exact nd
      · rw [if_neg sc]
        exact List.nodup_append.mpr ⟨nd, by simp, fun a ma b mb => by
          obtain rfl := List.mem_singleton.mp mb
          intro z
          exact sc ((hk _).mpr (z ▸ ma))⟩
    · rw [Bool.or_eq_true, hk, decide_eq_true_eq]
      by_cases sc : S c = true
      · rw [if_pos sc]
        exact ⟨fun h => h.elim id fun z => by rw [z]; exact (hk c).mp sc, .inl⟩
      · rw [if_neg sc, List.mem_append, List.mem_singleton]
    · rw [tk]
      by_cases sc : S c = true
      · rw [if_pos sc, hm]
        exact ⟨.inl, fun h => h.elim id fun z => by rw [ec] at z; cases z; exact (hm c).mp ((hk c).mp sc)⟩
      · rw [if_neg sc, List.mem_append, List.mem_singleton, hm, ec]
        exact ⟨fun h => h.elim .inl fun z => .inr (by rw [z]), fun h => h.elim .inl fun z => .inr (Option.some.inj z).symm⟩
    · rw [tk, hm, en]
      exact ⟨.inl, fun h => h.elim id fun z => by cases z⟩
  · obtain rfl : i = xs.length := by omega
    exact .inl ⟨⟨xs, hq, Nat.le_refl _⟩, done G S ds e hS nd hk (fun k => by rw [hm, List.take_length]) hle⟩
theorem u70r {k : Nat} {A : Around} (r : Room k A) : A.units + 70 < cLine := by have := r.un; omega
theorem u65r {k : Nat} {A : Around} (r : Room k A) : A.units + 65 < cLine := by have := r.un; omega
end Lw
/-! A comprehension over zip of a list and a shorter one. -/
namespace Lw
open PySem PySem.Spec PyProof.Rows L2 Evl
section
variable {Pe : PeT} {H1 : Hp} {D : Addr} {g : TG} {tt : TT} {te : TE} {vs : List Nat} {σ : L2.St} {Qd : Hp → Prop} {K : PySem.W.Frag} {a b : Addr} {xs ys : List V}
theorem lcZ (Pe : PeT) (mono : Mono Pe) (hD : H1 D = none) (hx : SqL K H1 a xs) (hy : SqL K H1 b ys) (le : ys.length ≤ xs.length) (hn : ys.length ≤ 50000)
    (hs : ∀ (i : Nat) (x y : V) (T : Addr) (H : Hp), xs[i]? = some x → ys[i]? = some y → Ex H1 H → H T = some (.tup [x, y]) → ∀ (Q1 : VK) (Q2 : Hp → Prop), (∀ y H4, Ex H H4 → Pe i (some y) H4 → Q1 y H4) → (∀ H4, Ex H H4 → Pe i none H4 → Q2 H4) →
      g (.ref T) (wipe σ vs) H fun σ2 H2 => wipe σ2 vs = wipe σ vs ∧ tt σ2 H2 fun b H3 => if b = true then te σ2 H3 Q1 else Q2 H3)
    (hd : ∀ H' (os : List (Option V)), Ex H1 H' → os.length = ys.length → H' D = some (.lst (os.filterMap id)) → (∀ i o, os[i]? = some o → Pe i o H') → Qd H') :
    ∃ W : Nat → Nat → Hp → Prop, (∃ m, W 0 m (upd H1 D (.lst []))) ∧ ∀ i m H, W i m H →
      ((Itz K a b).stop i H ∧ Qd H) ∨ ((Itz K a b).go i H ∧ ∃ Nx : Hp → Prop, (∀ H', Nx H' → ∃ m', m' < m ∧ W (i + 1) m' H') ∧ ∀ x H', (Itz K a b).yld i H x H' → g x (wipe σ vs) H' fun σ2 H2 => wipe σ2 vs = wipe σ vs ∧ tt σ2 H2 fun b H3 =>
        if b = true then te σ2 H3 fun y H4 => ∃ acc, H4 D = some (.lst acc) ∧ acc.length < sizeLine ∧ Nx (upd H4 D (.lst (acc ++ [y]))) else Nx H3) := by
  refine ⟨fun i m H => m = ys.length - i ∧ i ≤ ys.length ∧ LcI H1 D Pe i H, ⟨ys.length, by simp, Nat.zero_le _, LcI.start hD⟩, ?_⟩
  rintro i m H ⟨rfl, hi, I⟩
  have qx := ex_l I.ex hx
  have qy := ex_l I.ex hy
  by_cases hlt : i < ys.length
  · have gx := List.getElem?_eq_getElem (l := xs) (Nat.lt_of_lt_of_le hlt le)
    have gy := List.getElem?_eq_getElem (l := ys) hlt
    refine .inr ⟨⟨xs, ys, _, _, qx, qy, gx, gy⟩, fun H' => LcI H1 D Pe (i + 1) H', fun H' p' => ⟨ys.length - (i + 1), by omega, rfl, hlt, p'⟩, fun v H' y => ?_⟩
    obtain ⟨T, x', y', rfl, hT, rfl, f1, f2⟩ := y
    have en : Ex H (upd H T (.tup [x', y'])) := Ex.new hT
    exact hs i x' y' T _ (f1 xs qx) (f2 ys qy) (I.ex.trans en) upd_same _ _ (fun y H4 e p => I.more mono (by omega) (en.trans e) p) (fun H4 e p => I.less mono (en.trans e) p)
  · obtain rfl : i = ys.length := by omega
    refine .inl ⟨⟨xs, ys, qx, qy, .inr (Nat.le_refl _)⟩, ?_⟩
    obtain ⟨_, e, os, hl, h, p⟩ := I
    exact hd H os e hl h p
end
theorem cut1 (xs : List V) : cutV xs (some 1) none = xs.tail := by
  cases xs with
  | nil => rfl
  | cons x xs =>
    unfold cutV
    have e : HT.sIx (x :: xs).length 0 (some 1) = 1 := HT.sIx_nat _ _ 1 |>.trans (Nat.min_eq_left (Nat.succ_le_succ (Nat.zero_le _)))
    rw [e, HT.sIx_none]
    exact List.take_of_length_le (by simp)
/-- items that are truths, each told by an item of another list -/
theorem bools_of {α : Type} {p : α → Bool} {xs : List α} {ys : List V} (l : ys.length = xs.length) (h : ∀ (i : Nat) (y : V), ys[i]? = some y → ∃ x, xs[i]? = some x ∧ y = V.bl (p x)) : ys = (xs.map p).map V.bl := by
  refine List.ext_getElem? fun i => ?_
  rw [List.getElem?_map, List.getElem?_map]
  by_cases hi : i < ys.length
  · obtain ⟨o, ho, e⟩ := h i _ (List.getElem?_eq_getElem hi)
    rw [List.getElem?_eq_getElem hi, e, ho]
    rfl
  · rw [List.getElem?_eq_none (by omega), List.getElem?_eq_none (by omega)]
    rfl
end Lw
/-! Tuples that are made by a display, a slice, a concatenation: the user chooses whether the new one is known whole (no dict of its own). -/
namespace HT
open PySem PySem.Spec PyProof.Rows L2
section
variable {prog : Program} {w : World} {A : Around} {E : Value → Shared → Prop} {s : Shared}
theorem pick_rev (xs : Array Value) : ((List.range xs.size).filterMap fun (k : Nat) => xs[(((xs.size : Int) - 1) + (k : Int) * (-1)).toNat]?).toArray = xs.toList.reverse.toArray := by
  have e : (List.range xs.size).filterMap (fun (k : Nat) => xs[(((xs.size : Int) - 1) + (k : Int) * (-1)).toNat]?) = ((List.range xs.size).map fun k => xs.size - 1 - k).filterMap (xs[·]?) := by
    rw [List.filterMap_map]
    have e : (fun (k : Nat) => xs[(((xs.size : Int) - 1) + (k : Int) * (-1)).toNat]?) = (xs[·]?) ∘ fun k => xs.size - 1 - k := by
      funext k
      show xs[(((xs.size : Int) - 1) + (k : Int) * (-1)).toNat]? = xs[xs.size - 1 - k]?
      have e : (((xs.size : Int) - 1) + (k : Int) * (-1)).toNat = xs.size - 1 - k := by omega
      rw [e]
    rw [e]
  rw [e, PySem.W.krv_range, List.filterMap_reverse, PySem.W.krv_all]
theorem adjust_rev (n : Nat) : Builtin.Slice.sliceAdjust none none (-1) (n : Int) = ((n : Int) - 1, -1) := by
  unfold Builtin.Slice.sliceAdjust
  have h1 : (-1 : Int) < 0 := by omega
  simp only [h1, if_true]
theorem places_rev (n : Nat) : Builtin.Slice.slicePlaces ((n : Int) - 1) (-1) (-1) = n := by
  unfold Builtin.Slice.slicePlaces
  have h1 : ¬ (-1 : Int) > 0 := by omega
  simp only [h1, if_false]
  by_cases h : (n : Int) - 1 > -1
  · rw [if_pos h, show (-(-1) : Int) = 1 by decide, Int.ediv_one]
    omega
  · rw [if_neg h]
    omega
theorem sliceApplied_rev {sl : Addr} {vl vu vs : Value} {n : Nat} {Q : Int × Int × Nat → Shared → Prop} (hs : s.heap.IsSliceOf sl vl vu vs) (pl : IsPart vl none) (pu : IsPart vu none) (ps : IsPart vs (some (-1)))
    (h : Q ((n : Int) - 1, -1, n) s) : wpAny (model prog w) A (Builtin.Slice.sliceApplied (.ref sl) (pure (n : Int))) Q E s := by
  obtain ⟨os, hos, hcs, hds⟩ := id hs
  unfold Builtin.Slice.sliceApplied Builtin.Slice.sliceFields
  refine wpAny_bind (wpAny_bind (wpAny_field hos hds (x := vl) rfl (wpAny_bind (wpAny_field hos hds (x := vu) rfl (wpAny_bind (wpAny_field hos hds (x := vs) rfl (wpAny_pure ?_)))))))
  refine wpAny_bind (slicePart_ ps ?_)
  show wpAny _ _ (if ((-1 : Int) == 0) = true then _ else _) _ _ s
  rw [if_neg (by decide)]
  refine wpAny_bind (slicePart_ pl (wpAny_bind (slicePart_ pu (wpAny_bind (wpAny_pure ?_)))))
  show wpAny _ _ (match Builtin.Slice.sliceAdjust none none (-1) (n : Int) with | (lo, hi) => pure (lo, (-1 : Int), Builtin.Slice.slicePlaces lo hi (-1))) _ _ s
  rw [adjust_rev n]
  show wpAny _ _ (pure ((n : Int) - 1, (-1 : Int), Builtin.Slice.slicePlaces ((n : Int) - 1) (-1) (-1))) _ _ s
  rw [places_rev]
  exact wpAny_pure h
theorem getItem_tuple_rev {t sl : Addr} {items : Array Value} {vl vu vs : Value} {Q : Value → Shared → Prop} (ht : IsTup s.heap t items) (hs : s.heap.IsSliceOf sl vl vu vs) (pl : IsPart vl none) (pu : IsPart vu none) (ps : IsPart vs (some (-1)))
    (h : Q (.ref s.heap.objs.size) { s with heap := s.heap.push { cls := .type "tuple", data := .seq items.toList.reverse.toArray } })
    (hsz : items.size ≤ sizeLine) : wpAny (model prog w) A (getItem (.ref t) (.ref sl)) Q E s := by
  have htake : sizeOk (.seq items.toList.reverse.toArray) := by
    show items.toList.reverse.toArray.size ≤ sizeLine
    rw [List.size_toArray, List.length_reverse, Array.length_toList]
    exact hsz
  obtain ⟨os, hos, hcs, hds⟩ := id hs
  have hTs : s.TypeIs (.ref sl) "slice" := ⟨os, hos, hcs⟩
  unfold getItem
  try with_reducible refine wpAny_holding ?_
  first | refine wpAny_bind (wpAny_pure ?_) | skip
  refine wpAny_bind (wpAny_sequenceKey ht.typeIs (by decide) ?_)
  refine wpAny_bind (wpAny_callSpecial?_slot (name := Str.ofString "__getitem__") ht.typeIs PyProof.Rows.slot_tuple_getitem
    (wpAny_call_entry PyProof.Rows.slot_tuple_getitem ht.typeIs entry_tuple_getitem ?_ (args_tuple_getitem _ _)))
  show wpAny _ _ (Builtin.Tuple.tupleItemsOf (.ref t) >>= _) _ _ s
  refine wpAny_bind (tupleItemsOf_ ht ?_)
  refine wpAny_bind (wpAny_typeOf hTs ?_)
  rw [if_pos (by decide)]
  refine wpAny_bind (sliceApplied_rev hs pl pu ps ?_)
  have hno : ¬ ((((items.size : Int) - 1) == 0 && (-1 : Int) == 1 && items.size == items.size) = true) := by
    intro q
    rw [Bool.and_eq_true, Bool.and_eq_true] at q
    exact absurd (eq_of_beq q.1.2) (by decide)
  show wpAny _ _ (if (((items.size : Int) - 1) == 0 && (-1 : Int) == 1 && items.size == items.size) = true then _ else _) _ _ s
  rw [if_neg hno, pick_rev]
  first
    | exact wpAny_bind (m := Builtin.Tuple.tupleExact _) (wpAny_newObj_type (wpAny_pure ⟨_, rfl, wpAny_pure h⟩) htake)
    | exact wpAny_bind (m := Builtin.Tuple.tupleExact _) (wpAny_newObj_type (wpAny_bind (wpAny_pure (wpAny_pure ⟨_, rfl, wpAny_pure h⟩))) htake)
    | exact wpAny_bind (wpAny_bind (m := Builtin.Tuple.tupleExact _) (wpAny_newObj_type (wpAny_pure (wpAny_pure ⟨_, rfl, wpAny_pure h⟩)) htake))
    | exact wpAny_bind (wpAny_bind (m := Builtin.Tuple.tupleExact _) (wpAny_newObj_type (wpAny_pure ⟨_, rfl, wpAny_pure h⟩) htake))
end
end HT
namespace Lw
open PySem PySem.Spec PyProof.Rows L2 Evl HT
/-- a new tuple, known whole or not -/
def hoT (fz : Bool) (o : Obj) (xs : List V) : HO := if fz then .frz o (.tup xs) else .tup xs
def NewT (fz : Bool) (xs : List V) (H : Hp) (Q : VK) : Prop := ∀ p o, H p = none → o.dict = none → Q (.ref p) (upd H p (hoT fz o xs))
/-- a tuple that is known whole, or not -/
def TF (fz : Bool) (H : Hp) (t : Addr) (xs : List V) : Prop := ∃ o : Obj, o.dict = none ∧ H t = some (hoT fz o xs)
theorem TF.up {fz : Bool} {H H' : Hp} {t : Addr} {xs : List V} (e : Ex H H') (h : TF fz H t xs) : TF fz H' t xs := let ⟨o, d, h⟩ := h; ⟨o, d, e _ _ h⟩
theorem TF.sq {K : PySem.W.Frag} {fz : Bool} {H : Hp} {t : Addr} {xs : List V} (h : TF fz H t xs) : SqT K H t xs := by
  obtain ⟨o, d, h⟩ := h
  cases fz with
  | true => exact .inl (.inr ⟨o, h⟩)
  | false => exact SqT.of h
theorem TF.kd {fz : Bool} {H : Hp} {t : Addr} {xs : List V} (h : TF fz H t xs) : Kd H (.ref t) "tuple" := by
  obtain ⟨o, d, h⟩ := h
  cases fz with
  | true => exact Kd.fz h
  | false => exact Kd.tup h
theorem TF.tup {H : Hp} {t : Addr} {xs : List V} (h : TF false H t xs) : H t = some (.tup xs) := let ⟨_, _, h⟩ := h; h
theorem TF.tu {H : Hp} {t : Addr} {xs : List V} (h : TF true H t xs) : Tu H t xs := let ⟨o, d, h⟩ := h; ⟨o, d, h⟩
theorem TF.of {H : Hp} {t : Addr} {xs : List V} (h : H t = some (.tup xs)) : TF false H t xs := ⟨{ cls := .type "tuple", data := .seq #[] }, rfl, h⟩
theorem TF.ofTu {H : Hp} {t : Addr} {xs : List V} (h : Tu H t xs) : TF true H t xs := let ⟨o, d, h⟩ := h; ⟨o, d, h⟩
section
variable {X : Cx}
theorem newT_laid {pins : List (Addr × Obj)} {σ : L2.St} {H : Hp} {s : Shared} {xs : List V} {us : List Value} (I : Inv X pins σ H s) (r : Vals xs us) (hz : xs.length ≤ sizeLine) (fz : Bool) {Q : VK} (q : NewT fz xs H Q) :
    EP X pins σ Q (.ref s.heap.objs.size) { s with heap := s.heap.push { cls := .type "tuple", data := .seq us.toArray } } := by
  have hn := I.hok.fresh (Nat.le_refl _)
  cases fz with
  | true => exact ⟨.ref _, _, I.laid (t' := s.toks) (fun b u e => Heap.get?_push_of_some _ e) (Nat.le_refl _) (o := .frz { cls := .type "tuple", data := .seq us.toArray } (.tup xs)) ⟨Heap.get?_push_size _ rfl, hz, us, r, ⟨_, Heap.get?_push_size _ rfl, rfl, _, rfl⟩⟩, rfl, q _ _ hn rfl⟩
  | false => exact ⟨.ref _, _, I.laid (t' := s.toks) (o := .tup xs) (fun b u e => Heap.get?_push_of_some _ e) (Nat.le_refl _) ⟨hz, us, r, ⟨_, Heap.get?_push_size _ rfl, rfl, _, rfl⟩⟩, rfl, q _ { cls := .type "tuple", data := .seq us.toArray } hn rfl⟩
variable {es : List Expr} {pos : Pos} {t : TA}
def tTupC (t : TA) : TE := fun σ H Q => t σ H fun xs H1 => xs.length ≤ sizeLine ∧ ∃ fz, NewT fz xs H1 Q
/-- (a, ..) -/
theorem pe_tupC {x1} (h : PA X es t) : PE X (.Tuple es x1 pos) (tTupC t) := by
  refine ⟨fun pins s σ H Q I hq => ?_⟩
  refine wpAny_Tuple_spliced (thn (h.run pos pins s σ H _ I hq) fun us s1 hh => ?_)
  obtain ⟨xs, H1, J, r, z, fz, q⟩ := hh
  exact ⟨by rw [← r.length]; exact z, newT_laid J r z fz q⟩
/-- t[lo:hi] -/
def rSlC (K : PySem.W.Frag) : V → Option Int → Option Int → Hp → VK → Prop := fun x lo hi H Q => ∃ a xs, x = .ref a ∧ SqT K H a xs ∧
  (HT.sIx xs.length 0 lo = 0 ∧ HT.sIx xs.length xs.length hi = xs.length → Q (.ref a) H) ∧ (¬ (HT.sIx xs.length 0 lo = 0 ∧ HT.sIx xs.length xs.length hi = xs.length) → ∃ fz, NewT fz (cutV xs lo hi) H Q)
theorem sl_tupC : SlR X (rSlC X.K) := by
  intro pins s σ H x v vl vu lo hi sl Q I rx hs pl pu h
  obtain ⟨a, xs, rfl, hx, q1, q2⟩ := h
  by_cases hw : HT.sIx xs.length 0 lo = 0 ∧ HT.sIx xs.length xs.length hi = xs.length
  · exact sl_tupA pins s σ H _ v vl vu lo hi sl Q I rx hs pl pu ⟨a, xs, rfl, hx, q1, fun n => absurd hw n⟩
  · obtain ⟨fz, q⟩ := q2 hw
    cases rx
    obtain ⟨its, r, ht, hz⟩ := I.tuple hx
    have hlen : its.toArray.size = xs.length := by rw [List.size_toArray]; exact r.length.symm
    refine ⟨"tuple", _, PyProof.Rows.slot_tuple_getitem.lookup, ht.typeIs, ?_⟩
    refine HT.getItem_tuple_cut ht hs pl pu (by rw [hlen]; exact hw) ?_ (by rw [hlen]; exact hz)
    rw [hlen]
    exact newT_laid I ((r.drop (HT.sIx xs.length 0 lo)).take (HT.sIx xs.length xs.length hi - HT.sIx xs.length 0 lo)) (Nat.le_trans (cutV_length xs lo hi) hz) fz q
/-- t + u -/
def rCatC (K : PySem.W.Frag) : R2 := fun x y H Q => ∃ a b xs ys, x = .ref a ∧ y = .ref b ∧ SqT K H a xs ∧ SqT K H b ys ∧ xs.length + ys.length ≤ sizeLine ∧
  (xs = [] → Q (.ref b) H) ∧ (xs ≠ [] → ys = [] → Q (.ref a) H) ∧ (xs ≠ [] → ys ≠ [] → ∃ fz, NewT fz (xs ++ ys) H Q)
theorem op_catC : OpR X (binaryOp .Add) (rCatC X.K) := by
  intro pins s σ H x y v u Q I rx ry h
  obtain ⟨a, b, xs, ys, rfl, rfl, ha, hb, hz, q0, q1, q2⟩ := h
  by_cases hx : xs = []
  · exact op_catA pins s σ H _ _ v u Q I rx ry ⟨a, b, xs, ys, rfl, rfl, ha, hb, hz, q0, q1, fun n => absurd hx n⟩
  · cases rx
    cases ry
    obtain ⟨its, r1, p1, _⟩ := I.tuple ha
    obtain ⟨its2, r2, p2, _⟩ := I.tuple hb
    refine HT.cat_tup p1 p2 (fun z => hx (r1.nil_iff.mp z)) (fun z => ⟨.ref a, H, I, rfl, q1 hx (r2.nil_iff.mp z)⟩) (fun z => ?_) (by rw [← r1.length, ← r2.length]; exact hz)
    obtain ⟨fz, q⟩ := q2 hx fun w => z (r2.nil_iff.mpr w)
    exact newT_laid I (r1.append r2) (by rw [List.length_append]; exact hz) fz q
/-- t[::-1] -/
def tRevC (K : PySem.W.Frag) (te : TE) : TE := fun σ H Q => te σ H fun x H1 => ∃ a xs, x = .ref a ∧ SqT K H1 a xs ∧ ∃ fz, NewT fz xs.reverse H1 Q
theorem pe_revC {e : Expr} {te : TE} {k : Nat} {p1 p2 p3 pos : Pos} (he : PE X e te) : PE X (.Subscript e (.Slice none none (some (.UnaryOp .USub (.Constant (.int 1) k p1) p2)) p3) pos) (tRevC X.K te) := by
  refine ⟨fun pins s σ H Q I h => ?_⟩
  refine Subscript_ (thn (he.run pins s σ H _ I h) fun v s1 ⟨x, H1, I1, r1, q1⟩ => ?_)
  obtain ⟨a, xs, ex, hx, fz, q⟩ := q1
  subst ex
  cases r1
  have hst : PO X (some (.UnaryOp .USub (.Constant (.int 1) k p1) p2)) (tPart (tUn (rU fun i => .int (-i)) (tC (.int 1)))) := po_some (pe_un un_neg pe_int)
  refine wpAny_Slice (thn (po_none.run pins s1 σ H1 (fun o H2 => o = none ∧ H2 = H1) I1 ⟨rfl, rfl⟩) fun vl s2 ⟨l, H2, I2, pl, el, e2⟩ => ?_)
  subst el e2
  refine thn (po_none.run pins s2 σ H2 (fun o H3 => o = none ∧ H3 = H2) I2 ⟨rfl, rfl⟩) fun vu s3 ⟨u, H3, I3, pu, eu, e3⟩ => ?_
  subst eu e3
  refine thn (hst.run pins s3 σ H3 (fun o H4 => o = some (-1) ∧ H4 = H3) I3 ⟨1, rfl, -1, rfl, rfl, rfl⟩) fun vs s4 ⟨o, H4, I4, ps, eo, e4⟩ => ?_
  subst eo e4
  have I5 : Inv X pins σ H4 { s4 with heap := s4.heap.push { cls := .type "slice", data := .fields #[vl, vu, vs] } } := I4.kept (t' := s4.toks) fun b ob q => Heap.get?_push_of_some _ q
  obtain ⟨its, r, ht, hz⟩ := I5.tuple hx
  have hlen := r.length
  show wpAny (model X.prog X.w) X.A (subscriptTail e (.Slice none none (some (.UnaryOp .USub (.Constant (.int 1) k p1) p2)) p3) (.ref a) (.ref s4.heap.objs.size)) (EP X pins σ Q) X.xe { s4 with heap := s4.heap.push { cls := .type "slice", data := .fields #[vl, vu, vs] } }
  refine tail_any (ops := [.ref a, .ref s4.heap.objs.size]) ht.typeIs PyProof.Rows.slot_tuple_getitem.lookup ?_ (by with_unfolding_all rfl)
  refine HT.getItem_tuple_rev ht (Heap.IsSliceOf.new _ vl vu vs) pl pu ps ?_ (by rw [List.size_toArray]; omega)
  exact newT_laid I5 r.reverse (by rw [List.length_reverse]; exact hz) fz q
/-- a tuple of anything != () -/
def rNeE (K : PySem.W.Frag) : R2 := fun x y H Q => ∃ a b xs, x = .ref a ∧ y = .ref b ∧ SqT K H a xs ∧ H b = some (.tup []) ∧ Q (.bl (!xs.isEmpty)) H
theorem op_neE {X : Cx} (hu : X.A.units + 64 < cLine) : OpR X (compareOp .NotEq) (rNeE X.K) := by
  intro pins s σ H x y v u Q I rx ry h
  obtain ⟨a, b, xs, rfl, rfl, ha, hb, q⟩ := h
  cases rx
  cases ry
  obtain ⟨its, rv, hta, _⟩ := I.tuple ha
  obtain ⟨its2, rv2, htb, _⟩ := I.tuple (SqT.of hb)
  cases rv2
  refine (SeqAt.RcNeAt.tuples (e := fun _ => true) hta htb (by omega) (fun j _ h2 => absurd h2 (by simp))) _ _ _ _ ?_
  have e : ((List.range (min its.toArray.size ([] : List Value).toArray.size)).all (fun _ => true) && its.toArray.size == ([] : List Value).toArray.size) = xs.isEmpty := by
    cases rv with
    | nil => rfl
    | cons _ _ => simp
  rw [e]
  exact ⟨.bl _, H, I, rfl, q⟩
end
end Lw
/-! Forms that have the same value have one reduced form; forms written otherwise. -/
namespace Lw.Fo
section
variable {κ : Type} [DecidableEq κ]
theorem tab_congr {names : List Int} {n : Nat} {f g : Form κ} (h : ∀ ρ, eval ρ f = eval ρ g) : ∀ (S : List κ) (ρ : κ → Int), tab names n S ρ f = tab names n S ρ g
  | [], ρ => by show [eval ρ f] = [eval ρ g]; rw [h]
  | s :: S, ρ => by
    show (names ++ [own (n - (S.length + 1))]).flatMap (fun c => tab names n S (upd ρ s c) f) = (names ++ [own (n - (S.length + 1))]).flatMap (fun c => tab names n S (upd ρ s c) g)
    rw [show (fun c => tab names n S (upd ρ s c) f) = fun c => tab names n S (upd ρ s c) g from funext fun c => tab_congr h S _]
theorem ins_sorted {α : Type} {lt : α → α → Bool} (trans : ∀ a b c, lt a b = true → lt b c = true → lt a c = true) (total : ∀ a b, lt a b = false → lt b a = false → a = b) (x : α) :
    ∀ M : List α, M.Pairwise (fun a b => lt a b = true) → ∃ N : List α, N.Pairwise (fun a b => lt a b = true) ∧ ∀ y, y ∈ N ↔ y = x ∨ y ∈ M
  | [], _ => ⟨[x], by simp, fun y => by simp⟩
  | m :: M, h => by
    have hm := List.pairwise_cons.mp h
    by_cases h1 : lt x m = true
    · refine ⟨x :: m :: M, List.pairwise_cons.mpr ⟨fun y my => ?_, h⟩, fun y => by simp⟩
      rcases List.mem_cons.mp my with rfl | my
      · exact h1
      · exact trans _ _ _ h1 (hm.1 y my)
    · by_cases h2 : lt m x = true
      · obtain ⟨N, n1, n2⟩ := ins_sorted trans total x M hm.2
        refine ⟨m :: N, List.pairwise_cons.mpr ⟨fun y my => ?_, n1⟩, fun y => ?_⟩
        · rcases (n2 y).mp my with rfl | my
          · exact h2
          · exact hm.1 y my
        · rw [List.mem_cons, n2, List.mem_cons]
          constructor
          · rintro (a | a | a)
            · exact .inr (.inl a)
            · exact .inl a
            · exact .inr (.inr a)
          · rintro (a | a | a)
            · exact .inr (.inl a)
            · exact .inl a
            · exact .inr (.inr a)
      · obtain rfl := total x m (by simpa using h1) (by simpa using h2)
        exact ⟨x :: M, h, fun y => by simp⟩
theorem ex_sorted {α : Type} {lt : α → α → Bool} (trans : ∀ a b c, lt a b = true → lt b c = true → lt a c = true) (total : ∀ a b, lt a b = false → lt b a = false → a = b) :
    ∀ L : List α, ∃ M : List α, M.Pairwise (fun a b => lt a b = true) ∧ ∀ y, y ∈ M ↔ y ∈ L
  | [] => ⟨[], .nil, fun y => Iff.rfl⟩
  | x :: L => by
    obtain ⟨M, m1, m2⟩ := ex_sorted trans total L
    obtain ⟨N, n1, n2⟩ := ins_sorted trans total x M m1
    exact ⟨N, n1, fun y => by rw [n2, m2, List.mem_cons]⟩
mutual
theorem ok3 {N N' : Int → Prop} {E E' A B : κ → Prop} (g : ∀ c, N c → N' c) (e : ∀ k, E k → E' k) (h : ∀ k, A k → B k) : ∀ f : Form κ, Ok N E A f → Ok N' E' B f
  | .col c, q => g c q
  | .cel k, q => e k q
  | .ask k rows o, ⟨a, z, b, c⟩ => ⟨h _ a, z, ok3R g e h rows b, ok3 g e h o c⟩
theorem ok3R {N N' : Int → Prop} {E E' A B : κ → Prop} (g : ∀ c, N c → N' c) (e : ∀ k, E k → E' k) (h : ∀ k, A k → B k) : ∀ r : Rows κ, OkR N E A r → OkR N' E' B r
  | .nil, q => q
  | .cons c f t, ⟨a, b, d⟩ => ⟨g _ a, ok3 g e h f b, ok3R g e h t d⟩
end
/-- forms that have the same value have one reduced form -/
theorem forms_same {lt : κ → κ → Bool} (asym : ∀ a b, lt a b = true → lt b a = false) (trans : ∀ a b c, lt a b = true → lt b c = true → lt a c = true) (total : ∀ a b, lt a b = false → lt b a = false → a = b) {C : List Int} {S : List κ} {f g : Form κ} {m : Nat}
    (okf : Ok (fun c => c ∈ C) (fun k => k ∈ S) (fun k => k ∈ S) f) (okg : Ok (fun c => c ∈ C) (fun k => k ∈ S) (fun k => k ∈ S) g) (ho : ∀ i, i < S.length → own i ∉ C) (hm : S.length ≤ m) (h : ∀ ρ, eval ρ f = eval ρ g) : redN lt m f = redN lt m g := by
  obtain ⟨every, e1, e2⟩ := ex_sorted trans total S
  obtain ⟨names, n1, n2⟩ := ex_sorted (lt := fun a b : Int => decide (a < b)) (fun a b c x y => by simp only [decide_eq_true_eq] at *; omega) (fun a b x y => by simp only [decide_eq_false_iff_not] at *; omega) C
  have len : every.length ≤ S.length := by
    refine nodup_len (e1.imp fun {a b} x z => ?_) fun x mx => (e2 x).mp mx
    subst z
    have := asym _ _ x
    rw [x] at this
    cases this
  have hn : names.Pairwise (· < ·) := n1.imp fun x => of_decide_eq_true x
  have ho' : ∀ i, i < every.length → own i ∉ names := fun i hi z => ho i (by omega) ((n2 _).mp z)
  have cr := fun (f : Form κ) (ok : Ok (fun c => c ∈ C) (fun k => k ∈ S) (fun k => k ∈ S) f) => canon_red lt names every asym e1 hn ho' every [] (fun _ => 0) f m rfl (fun i k z => by cases z) (ok3 (fun c x => (n2 c).mpr x) (fun k x => (e2 k).mpr x) (fun k x => (e2 k).mpr x) f ok) (by omega)
  rw [← cr f okf, ← cr g okg, tab_congr h]
/-! forms written otherwise -/
mutual
def endsA (s : κ) (c : Int) : Form κ → Form κ
  | .col d => .col d
  | .cel k => if k = s then .ask s (.cons c (.col c) .nil) (.cel k) else .cel k
  | .ask k r o => .ask k (endsR s c r) (endsA s c o)
def endsR (s : κ) (c : Int) : Rows κ → Rows κ
  | .nil => .nil
  | .cons d f t => .cons d (endsA s c f) (endsR s c t)
end
mutual
theorem eval_ends (ρ : κ → Int) (s : κ) (c : Int) : ∀ f : Form κ, eval ρ (endsA s c f) = eval ρ f
  | .col d => rfl
  | .cel k => by
    show eval ρ (if k = s then .ask s (.cons c (.col c) .nil) (.cel k) else .cel k) = ρ k
    split
    · rename_i e
      subst e
      show (if ρ k = c then some c else none).getD (ρ k) = ρ k
      split
      · rename_i e
        exact e.symm
      · rfl
    · rfl
  | .ask k r o => by
    show (evalR ρ (ρ k) (endsR s c r)).getD (eval ρ (endsA s c o)) = _
    rw [eval_ends ρ s c o, evalR_ends ρ s c (ρ k) r]
    rfl
theorem evalR_ends (ρ : κ → Int) (s : κ) (c v : Int) : ∀ r : Rows κ, evalR ρ v (endsR s c r) = evalR ρ v r
  | .nil => rfl
  | .cons d f t => by
    show (if v = d then some (eval ρ (endsA s c f)) else evalR ρ v (endsR s c t)) = if v = d then some (eval ρ f) else evalR ρ v t
    rw [eval_ends ρ s c f, evalR_ends ρ s c v t]
end
theorem cols_ends (s : κ) (c : Int) : ∀ r : Rows κ, cols (endsR s c r) = cols r
  | .nil => rfl
  | .cons d f t => by show d :: cols (endsR s c t) = d :: cols t; rw [cols_ends s c t]
mutual
theorem ok_ends {N : Int → Prop} {E : κ → Prop} {s : κ} {c : Int} (hc : N c) (hs : E s) : ∀ f : Form κ, Ok N E E f → Ok N E E (endsA s c f)
  | .col d, q => q
  | .cel k, q => by
    show Ok N E E (if k = s then .ask s (.cons c (.col c) .nil) (.cel k) else .cel k)
    split
    · exact ⟨hs, ⟨by simp [cols], by simp [cols]⟩, ⟨hc, hc, trivial⟩, q⟩
    · exact q
  | .ask k r o, ⟨a, z, b, d⟩ => ⟨a, by unfold Asc; rw [cols_ends]; exact z, ok_endsR hc hs r b, ok_ends hc hs o d⟩
theorem ok_endsR {N : Int → Prop} {E : κ → Prop} {s : κ} {c : Int} (hc : N c) (hs : E s) : ∀ r : Rows κ, OkR N E E r → OkR N E E (endsR s c r)
  | .nil, q => q
  | .cons d f t, ⟨a, b, e⟩ => ⟨a, ok_ends hc hs f b, ok_endsR hc hs t e⟩
end
/-- a row set in at its place -/
def insR (c : Int) (g : Form κ) : Rows κ → Rows κ
  | .nil => .cons c g .nil
  | .cons d f t => if c < d then .cons c g (.cons d f t) else .cons d f (insR c g t)
mutual
def moreB (c : Int) : Form κ → Form κ
  | .col d => .col d
  | .cel k => .cel k
  | .ask k r o => .ask k (if c ∈ cols r then moreR c r else insR c (moreB c o) (moreR c r)) (moreB c o)
def moreR (c : Int) : Rows κ → Rows κ
  | .nil => .nil
  | .cons d f t => .cons d (moreB c f) (moreR c t)
end
theorem cols_more (c : Int) : ∀ r : Rows κ, cols (moreR c r) = cols r
  | .nil => rfl
  | .cons d f t => by show d :: cols (moreR c t) = d :: cols t; rw [cols_more c t]
theorem evalR_ins (ρ : κ → Int) (v c : Int) (g : Form κ) : ∀ r : Rows κ, c ∉ cols r → evalR ρ v (insR c g r) = if v = c then some (eval ρ g) else evalR ρ v r
  | .nil, _ => rfl
  | .cons d f t, h => by
    have hd : c ≠ d := fun z => h (by rw [z]; exact List.mem_cons_self)
    have ht : c ∉ cols t := fun z => h (List.mem_cons_of_mem _ z)
    show evalR ρ v (if c < d then .cons c g (.cons d f t) else .cons d f (insR c g t)) = if v = c then some (eval ρ g) else if v = d then some (eval ρ f) else evalR ρ v t
    split
    · rfl
    · show (if v = d then some (eval ρ f) else evalR ρ v (insR c g t)) = _
      rw [evalR_ins ρ v c g t ht]
      by_cases e : v = d
      · rw [if_pos e, if_neg (fun z => hd (z.symm.trans e)), if_pos e]
      · rw [if_neg e, if_neg e]
theorem evalR_out (ρ : κ → Int) (v : Int) : ∀ r : Rows κ, v ∉ cols r → evalR ρ v r = none
  | .nil, _ => rfl
  | .cons d f t, h => by
    show (if v = d then some (eval ρ f) else evalR ρ v t) = none
    rw [if_neg (fun z => h (by rw [z]; exact List.mem_cons_self)), evalR_out ρ v t fun z => h (List.mem_cons_of_mem _ z)]
mutual
theorem eval_more (ρ : κ → Int) (c : Int) : ∀ f : Form κ, eval ρ (moreB c f) = eval ρ f
  | .col d => rfl
  | .cel k => rfl
  | .ask k r o => by
    have h1 := eval_more ρ c o
    have h2 := evalR_more ρ c (ρ k) r
    show (evalR ρ (ρ k) (if c ∈ cols r then moreR c r else insR c (moreB c o) (moreR c r))).getD (eval ρ (moreB c o)) = (evalR ρ (ρ k) r).getD (eval ρ o)
    split
    · rw [h1, h2]
    · rename_i hn
      rw [evalR_ins ρ (ρ k) c _ _ (by rw [cols_more]; exact hn), h1, h2]
      split
      · rename_i e
        rw [evalR_out ρ (ρ k) r (by rw [e]; exact hn)]
        rfl
      · rfl
theorem evalR_more (ρ : κ → Int) (c v : Int) : ∀ r : Rows κ, evalR ρ v (moreR c r) = evalR ρ v r
  | .nil => rfl
  | .cons d f t => by
    show (if v = d then some (eval ρ (moreB c f)) else evalR ρ v (moreR c t)) = if v = d then some (eval ρ f) else evalR ρ v t
    rw [eval_more ρ c f, evalR_more ρ c v t]
end
theorem cols_ins_mem (c : Int) (g : Form κ) (x : Int) : ∀ r : Rows κ, x ∈ cols (insR c g r) ↔ x = c ∨ x ∈ cols r
  | .nil => by simp [insR, cols]
  | .cons d f t => by
    have ih := cols_ins_mem c g x t
    show x ∈ cols (if c < d then .cons c g (.cons d f t) else .cons d f (insR c g t)) ↔ x = c ∨ x ∈ d :: cols t
    split
    · exact List.mem_cons
    · show x ∈ d :: cols (insR c g t) ↔ _
      rw [List.mem_cons, ih, List.mem_cons]
      constructor
      · rintro (a | a | a)
        · exact .inr (.inl a)
        · exact .inl a
        · exact .inr (.inr a)
      · rintro (a | a | a)
        · exact .inr (.inl a)
        · exact .inl a
        · exact .inr (.inr a)
theorem asc_ins {c : Int} {g : Form κ} : ∀ {r : Rows κ}, c ∉ cols r → (cols r).Pairwise (· < ·) → (cols (insR c g r)).Pairwise (· < ·)
  | .nil, _, _ => by simp [insR, cols]
  | .cons d f t, h, p => by
    have hp := List.pairwise_cons.mp p
    have hd : c ≠ d := fun z => h (by rw [z]; exact List.mem_cons_self)
    show (cols (if c < d then .cons c g (.cons d f t) else .cons d f (insR c g t))).Pairwise (· < ·)
    split
    · rename_i lt
      refine List.pairwise_cons.mpr ⟨fun x m => ?_, p⟩
      rcases List.mem_cons.mp m with rfl | m
      · exact lt
      · exact Int.lt_trans lt (hp.1 x m)
    · rename_i nlt
      refine List.pairwise_cons.mpr ⟨fun x m => ?_, asc_ins (fun z => h (List.mem_cons_of_mem _ z)) hp.2⟩
      rcases (cols_ins_mem c g x t).mp m with rfl | m
      · omega
      · exact hp.1 x m
theorem okR_ins {N : Int → Prop} {E A : κ → Prop} {c : Int} {g : Form κ} (hc : N c) (hg : Ok N E A g) : ∀ r : Rows κ, OkR N E A r → OkR N E A (insR c g r)
  | .nil, _ => ⟨hc, hg, trivial⟩
  | .cons d f t, ⟨a, b, e⟩ => by
    show OkR N E A (if c < d then .cons c g (.cons d f t) else .cons d f (insR c g t))
    split
    · exact ⟨hc, hg, a, b, e⟩
    · exact ⟨a, b, okR_ins hc hg t e⟩
mutual
theorem ok_more {N : Int → Prop} {E A : κ → Prop} {c : Int} (hc : N c) : ∀ f : Form κ, Ok N E A f → Ok N E A (moreB c f)
  | .col d, q => q
  | .cel k, q => q
  | .ask k r o, ⟨a, z, b, d⟩ => by
    have ho := ok_more hc o d
    have hr := ok_moreR hc r b
    show Ok N E A (.ask k (if c ∈ cols r then moreR c r else insR c (moreB c o) (moreR c r)) (moreB c o))
    split
    · exact ⟨a, by unfold Asc; rw [cols_more]; exact z, hr, ho⟩
    · rename_i hn
      refine ⟨a, ⟨fun e => ?_, asc_ins (by rw [cols_more]; exact hn) (by rw [cols_more]; exact z.2)⟩, okR_ins hc ho _ hr, ho⟩
      have := (cols_ins_mem c (moreB c o) c (moreR c r)).mpr (.inl rfl)
      rw [e] at this
      cases this
theorem ok_moreR {N : Int → Prop} {E A : κ → Prop} {c : Int} (hc : N c) : ∀ r : Rows κ, OkR N E A r → OkR N E A (moreR c r)
  | .nil, q => q
  | .cons d f t, ⟨a, b, e⟩ => ⟨a, ok_more hc f b, ok_moreR hc t e⟩
end
/-! how large: l copies of each other form -/
mutual
def tm (l : Nat) : Form κ → Nat
  | .col _ => 1
  | .cel _ => 1
  | .ask _ r o => l + (tmR l r + l * tm l o)
def tmR (l : Nat) : Rows κ → Nat
  | .nil => 0
  | .cons _ f t => 1 + (tm l f + tmR l t)
end
theorem tmR_ins (l : Nat) (c : Int) (g : Form κ) : ∀ r : Rows κ, tmR l (insR c g r) = 1 + tm l g + tmR l r
  | .nil => by show 1 + (tm l g + 0) = 1 + tm l g + 0; omega
  | .cons d f t => by
    have ih := tmR_ins l c g t
    show tmR l (if c < d then .cons c g (.cons d f t) else .cons d f (insR c g t)) = 1 + tm l g + (1 + (tm l f + tmR l t))
    split
    · show 1 + (tm l g + (1 + (tm l f + tmR l t))) = _
      omega
    · show 1 + (tm l f + tmR l (insR c g t)) = _
      omega
mutual
theorem tm_more (l : Nat) (c : Int) : ∀ f : Form κ, tm l (moreB c f) ≤ tm (l + 1) f
  | .col _ => Nat.le_refl _
  | .cel _ => Nat.le_refl _
  | .ask k r o => by
    have h1 := tm_more l c o
    have h2 := tmR_more l c r
    have h3 : l * tm l (moreB c o) ≤ l * tm (l + 1) o := Nat.mul_le_mul_left _ h1
    have h4 : (l + 1) * tm (l + 1) o = l * tm (l + 1) o + tm (l + 1) o := Nat.succ_mul _ _
    show l + (tmR l (if c ∈ cols r then moreR c r else insR c (moreB c o) (moreR c r)) + l * tm l (moreB c o)) ≤ (l + 1) + (tmR (l + 1) r + (l + 1) * tm (l + 1) o)
    split
    · omega
    · rw [tmR_ins]
      omega
theorem tmR_more (l : Nat) (c : Int) : ∀ r : Rows κ, tmR l (moreR c r) ≤ tmR (l + 1) r
  | .nil => Nat.le_refl _
  | .cons d f t => by
    have h1 := tm_more l c f
    have h2 := tmR_more l c t
    show 1 + (tm l (moreB c f) + tmR l (moreR c t)) ≤ 1 + (tm (l + 1) f + tmR (l + 1) t)
    omega
end
mutual
theorem tm_ends (l : Nat) (s : κ) (c : Int) : ∀ f : Form κ, tm l (endsA s c f) ≤ (2 * l + 2) * tm l f
  | .col _ => by show 1 ≤ (2 * l + 2) * 1; omega
  | .cel k => by
    show tm l (if k = s then .ask s (.cons c (.col c) .nil) (.cel k) else .cel k) ≤ (2 * l + 2) * 1
    split
    · show l + (1 + (1 + 0) + l * 1) ≤ _
      omega
    · show 1 ≤ _
      omega
  | .ask k r o => by
    have h1 := tm_ends l s c o
    have h2 := tmR_ends l s c r
    have h3 : l * tm l (endsA s c o) ≤ l * ((2 * l + 2) * tm l o) := Nat.mul_le_mul_left _ h1
    have h4 : l * ((2 * l + 2) * tm l o) = (2 * l + 2) * (l * tm l o) := Nat.mul_left_comm _ _ _
    have h5 : l ≤ (2 * l + 2) * l := Nat.le_mul_of_pos_left _ (by omega)
    show l + (tmR l (endsR s c r) + l * tm l (endsA s c o)) ≤ (2 * l + 2) * (l + (tmR l r + l * tm l o))
    rw [Nat.mul_add, Nat.mul_add]
    omega
theorem tmR_ends (l : Nat) (s : κ) (c : Int) : ∀ r : Rows κ, tmR l (endsR s c r) ≤ (2 * l + 2) * tmR l r
  | .nil => Nat.le_of_eq (Nat.mul_zero _).symm
  | .cons d f t => by
    have h1 := tm_ends l s c f
    have h2 := tmR_ends l s c t
    show 1 + (tm l (endsA s c f) + tmR l (endsR s c t)) ≤ (2 * l + 2) * (1 + (tm l f + tmR l t))
    rw [Nat.mul_add, Nat.mul_add]
    omega
end
end
end Lw.Fo
local macro_rules | `(tactic| fail "side") => `(tactic| first
  | ((with_reducible show (0 : Int) < _); omega)
  | ((with_reducible show L2.CMul _ _); unfold L2.CMul; omega)
  | ((with_reducible show L2.CDiv _ _); unfold L2.CDiv; omega)
  | ((with_reducible show L2.CPow _ _); unfold L2.CPow; decide)
  | ((with_reducible show (_ : Nat) ≤ _); refine Nat.le_trans ?_ Lw.line_ge; simp only [List.length_cons, List.length_nil, Nat.zero_add, Nat.reduceAdd]; decide)
  | ((with_reducible show (_ : Nat) < _); refine Nat.lt_of_lt_of_le ?_ Lw.line_ge; simp only [List.length_cons, List.length_nil, Nat.zero_add, Nat.reduceAdd]; decide)
  | ((with_reducible show (_ : Int) < _); first | omega | decide)
  | ((with_reducible show (_ : Int) ≤ _); first | omega | decide | (split <;> omega))
  | (show (0 : Int) < _; omega))
local macro_rules | `(tactic| fail "at1") => `(tactic| first
  | (with_reducible assumption)
  | ((with_reducible show L2.upd _ _ _ _ = _); first | exact L2.upd_same | exact Lw.upd_new (by with_reducible assumption) (by fail "at1"))
  | ((with_reducible show Lw.Minus _ _ _ = _); exact Lw.minus_at (Lw.ne_fresh (by with_reducible assumption) (by fail "at1")) (by fail "at1"))
  | exact Lw.ex_at (by with_reducible assumption) (by fail "at1"))
local macro_rules | `(tactic| fail "at") => `(tactic| ((with_reducible show (_ : Option L2.HO) = _); fail "at1"))
local macro_rules | `(tactic| fail "pool1") => `(tactic| first
  | (with_reducible assumption)
  | ((with_reducible show Lw.Pool (L2.upd _ _ _) _); exact Lw.Pool.new (by with_reducible assumption) (by fail "pool1"))
  | exact Lw.Pool.up (by with_reducible assumption) (by fail "pool1"))
local macro_rules | `(tactic| fail "pool") => `(tactic| ((with_reducible show Lw.Pool _ _); fail "pool1"))
local macro_rules | `(tactic| fail "th1") => `(tactic| first
  | (with_reducible assumption)
  | ((with_reducible show Lw.Th (L2.upd _ _ _) _ _); exact Lw.Th.new (by with_reducible assumption) (by fail "th1"))
  | exact Lw.Th.up (by with_reducible assumption) (by fail "th1"))
local macro_rules | `(tactic| fail "th") => `(tactic| ((with_reducible show Lw.Th _ _ _); fail "th1"))
local macro_rules | `(tactic| fail "sql1") => `(tactic| first
  | (apply Lw.sqlK; (with_reducible assumption); rfl)
  | exact L2.SqL.of (by fail "at1")
  | ((with_reducible show L2.SqL _ (L2.upd _ _ _) _ _); exact Evl.ex_l (Evl.Ex.new (by with_reducible assumption)) (by fail "sql1"))
  | exact Evl.ex_l (by with_reducible assumption) (by fail "sql1"))
local macro_rules | `(tactic| fail "sql") => `(tactic| ((with_reducible show L2.SqL _ _ _ _); fail "sql1"))
local macro_rules | `(tactic| fail "tu1") => `(tactic| first
  | (with_reducible assumption)
  | ((with_reducible show Lw.Tu (L2.upd _ _ _) _ _); exact Lw.Tu.up (Evl.Ex.new (by with_reducible assumption)) (by fail "tu1"))
  | exact Lw.Tu.up (by with_reducible assumption) (by fail "tu1"))
local macro_rules | `(tactic| fail "sqt1") => `(tactic| first
  | (apply Lw.sqtK; (with_reducible assumption); rfl)
  | exact Lw.Tu.sq (by fail "tu1")
  | exact L2.SqT.of (by fail "at1")
  | ((with_reducible show L2.SqT _ (L2.upd _ _ _) _ _); exact Evl.ex_t (Evl.Ex.new (by with_reducible assumption)) (by fail "sqt1"))
  | exact Evl.ex_t (by with_reducible assumption) (by fail "sqt1"))
local macro_rules | `(tactic| fail "sqt") => `(tactic| ((with_reducible show L2.SqT _ _ _ _); fail "sqt1"))
local macro_rules | `(tactic| fail "kd1") => `(tactic| first
  | (with_reducible assumption) | exact Lw.Kd.int _ | exact Lw.Kd.bl _ | exact Lw.Kd.str _ | exact Lw.Kd.non
  | exact Lw.Kd.tup (by fail "at1") | exact Lw.Kd.fz (by fail "at1") | exact Lw.Kd.lst (by fail "at1") | exact Lw.Kd.dK (by fail "at1")
  | ((with_reducible show Lw.Kd (L2.upd _ _ _) _ _); exact Lw.Kd.new (by with_reducible assumption) (by fail "kd1"))
  | exact Lw.Kd.up (by with_reducible assumption) (by fail "kd1"))
local macro_rules | `(tactic| fail "kd") => `(tactic| ((with_reducible show Lw.Kd _ _ _); fail "kd1"))
local macro_rules | `(tactic| fail "ati") => `(tactic| first
  | (with_reducible assumption)
  | ((with_reducible show L2.atI _ 0 = _); rfl)
  | ((with_reducible show L2.atI _ 1 = _); rfl)
  | ((with_reducible show L2.atI _ 2 = _); rfl)
  | ((with_reducible show L2.atI _ 3 = _); rfl)
  | ((with_reducible show L2.atI _ (-1) = _); rfl))
local macro_rules | `(tactic| fail "st") => `(tactic| first
  | (refine ⟨_, rfl, ?_⟩)
  | (refine ⟨_, _, rfl, rfl, ?_⟩)
  | (refine ⟨_, _, _, _, rfl, rfl, (by fail "sql"), (by fail "ati"), ?_⟩)
  | (refine ⟨_, _, _, _, rfl, rfl, (by fail "sqt"), (by fail "ati"), ?_⟩)
  | (refine ⟨_, _, _, _, rfl, rfl, (by fail "at"), rfl, ?_⟩)
  | (refine Or.inl ⟨_, _, _, _, rfl, rfl, (by fail "sql"), (by fail "ati"), ?_⟩)
  | (refine Or.inr (Or.inl ⟨_, _, _, _, rfl, rfl, (by fail "sqt"), (by fail "ati"), ?_⟩))
  | (refine ⟨_, _, _, _, rfl, (by fail "kd"), ?_⟩)
  | (refine ⟨_, _, rfl, Or.inl ⟨_, (by fail "sql"), rfl⟩, ?_⟩)
  | (refine ⟨_, _, rfl, Or.inr ⟨_, (by fail "sqt"), rfl⟩, ?_⟩)
  | (refine ⟨_, _, rfl, (by fail "sqt"), rfl, ?_⟩)
  | (refine ⟨_, _, rfl, (by fail "kd"), ?_⟩)
  | (refine ⟨_, _, rfl, (by fail "th"), ?_⟩)
  | (refine ⟨_, _, rfl, (by fail "sql"), ?_⟩)
  | (refine ⟨_, _, rfl, (by fail "sqt"), ?_⟩)
  | (refine ⟨(by fail "side"), ?_⟩)
  | (refine ⟨(by fail "pool"), ?_⟩)
  | (refine ⟨⟨_, (by fail "sqt")⟩, ?_⟩)
  | (refine ⟨⟨_, (by fail "sql")⟩, ?_⟩)
  | (refine ⟨_, _, rfl, ?_⟩)
  | (refine ⟨rfl, ?_⟩)
  | (refine ⟨_, _, _, _, _, rfl, L2.ClsV.ty _, Lw.Kd.ty (by fail "kd"), Lw.kit_k (by fail "kd") (by decide), ?_⟩))
namespace K45
open PySem PySem.Spec PyProof.Rows L2 Evl Lw
def topS (i : Nat) : Stmt := PySem.Challenge.pw_allscreens_k45_whole_forms_written_other.main.body.getD i (.Pass ⟨0, 0, 0, 0⟩)
abbrev s_InvalidStage___init__ : Stmt := inClass (topS 2) 0
abbrev N_InvalidStage___init__ : List Str := ["self", "value"]
theorem sc_InvalidStage___init__ : FnScope N_InvalidStage___init__ ["self", "value"] (defScope s_InvalidStage___init__) := ⟨rfl, rfl, rfl, by decide +kernel, rfl, by decide +kernel, by decide +kernel⟩
abbrev s_InvalidForm___init__ : Stmt := inClass (topS 3) 0
abbrev N_InvalidForm___init__ : List Str := ["self", "value"]
theorem sc_InvalidForm___init__ : FnScope N_InvalidForm___init__ ["self", "value"] (defScope s_InvalidForm___init__) := ⟨rfl, rfl, rfl, by decide +kernel, rfl, by decide +kernel, by decide +kernel⟩
abbrev s_is_integer : Stmt := topS 10
abbrev N_is_integer : List Str := ["value"]
theorem sc_is_integer : FnScope N_is_integer ["value"] (defScope s_is_integer) := ⟨rfl, rfl, rfl, by decide +kernel, rfl, by decide +kernel, by decide +kernel⟩
theorem b_is_integer : Lw.Bnd "is_integer" s_is_integer ["value"] := fun _ _ _ _ _ _ us hl => match us, hl with | [_], _ => rfl
abbrev s_is_between : Stmt := topS 11
abbrev N_is_between : List Str := ["value", "low", "high"]
theorem sc_is_between : FnScope N_is_between ["value", "low", "high"] (defScope s_is_between) := ⟨rfl, rfl, rfl, by decide +kernel, rfl, by decide +kernel, by decide +kernel⟩
theorem b_is_between : Lw.Bnd "is_between" s_is_between ["value", "low", "high"] := fun _ _ _ _ _ _ us hl => match us, hl with | [_, _, _], _ => rfl
abbrev s_is_name : Stmt := topS 12
abbrev N_is_name : List Str := ["value", "sign"]
theorem sc_is_name : FnScope N_is_name ["value"] (defScope s_is_name) := ⟨rfl, rfl, rfl, by decide +kernel, rfl, by decide +kernel, by decide +kernel⟩
theorem b_is_name : Lw.Bnd "is_name" s_is_name ["value"] := fun _ _ _ _ _ _ us hl => match us, hl with | [_], _ => rfl
abbrev s_is_colour : Stmt := topS 13
abbrev N_is_colour : List Str := ["value"]
theorem sc_is_colour : FnScope N_is_colour ["value"] (defScope s_is_colour) := ⟨rfl, rfl, rfl, by decide +kernel, rfl, by decide +kernel, by decide +kernel⟩
theorem b_is_colour : Lw.Bnd "is_colour" s_is_colour ["value"] := fun _ _ _ _ _ _ us hl => match us, hl with | [_], _ => rfl
abbrev s_is_surface : Stmt := topS 14
abbrev N_is_surface : List Str := ["value"]
theorem sc_is_surface : FnScope N_is_surface ["value"] (defScope s_is_surface) := ⟨rfl, rfl, rfl, by decide +kernel, rfl, by decide +kernel, by decide +kernel⟩
theorem b_is_surface : Lw.Bnd "is_surface" s_is_surface ["value"] := fun _ _ _ _ _ _ us hl => match us, hl with | [_], _ => rfl
abbrev s_is_stage : Stmt := topS 15
abbrev N_is_stage : List Str := ["value", "index", "surface"]
theorem sc_is_stage : FnScope N_is_stage ["value"] (defScope s_is_stage) := ⟨rfl, rfl, rfl, by decide +kernel, rfl, by decide +kernel, by decide +kernel⟩
theorem b_is_stage : Lw.Bnd "is_stage" s_is_stage ["value"] := fun _ _ _ _ _ _ us hl => match us, hl with | [_], _ => rfl
abbrev s_is_cell : Stmt := topS 16
abbrev N_is_cell : List Str := ["stage", "value", "name", "width", "height"]
theorem sc_is_cell : FnScope N_is_cell ["stage", "value"] (defScope s_is_cell) := ⟨rfl, rfl, rfl, by decide +kernel, rfl, by decide +kernel, by decide +kernel⟩
theorem b_is_cell : Lw.Bnd "is_cell" s_is_cell ["stage", "value"] := fun _ _ _ _ _ _ us hl => match us, hl with | [_, _], _ => rfl
abbrev s_check_stage : Stmt := topS 17
abbrev N_check_stage : List Str := ["value"]
theorem sc_check_stage : FnScope N_check_stage ["value"] (defScope s_check_stage) := ⟨rfl, rfl, rfl, by decide +kernel, rfl, by decide +kernel, by decide +kernel⟩
theorem b_check_stage : Lw.Bnd "check_stage" s_check_stage ["value"] := fun _ _ _ _ _ _ us hl => match us, hl with | [_], _ => rfl
abbrev s_are_branches : Stmt := topS 19
abbrev N_are_branches : List Str := ["stage", "value", "colours", "pair", "one", "other"]
theorem sc_are_branches : FnScope N_are_branches ["stage", "value"] (defScope s_are_branches) := ⟨rfl, rfl, rfl, by decide +kernel, rfl, by decide +kernel, by decide +kernel⟩
theorem b_are_branches : Lw.Bnd "are_branches" s_are_branches ["stage", "value"] := fun _ _ _ _ _ _ us hl => match us, hl with | [_, _], _ => rfl
abbrev s_has_form : Stmt := topS 20
abbrev N_has_form : List Str := ["stage", "value"]
theorem sc_has_form : FnScope N_has_form ["stage", "value"] (defScope s_has_form) := ⟨rfl, rfl, rfl, by decide +kernel, rfl, by decide +kernel, by decide +kernel⟩
theorem b_has_form : Lw.Bnd "has_form" s_has_form ["stage", "value"] := fun _ _ _ _ _ _ us hl => match us, hl with | [_, _], _ => rfl
abbrev s_check_form : Stmt := topS 21
abbrev N_check_form : List Str := ["stage", "value"]
theorem sc_check_form : FnScope N_check_form ["stage", "value"] (defScope s_check_form) := ⟨rfl, rfl, rfl, by decide +kernel, rfl, by decide +kernel, by decide +kernel⟩
theorem b_check_form : Lw.Bnd "check_form" s_check_form ["stage", "value"] := fun _ _ _ _ _ _ us hl => match us, hl with | [_, _], _ => rfl
abbrev s_keys_in : Stmt := topS 22
abbrev N_keys_in : List Str := ["form", "word", "key", "branches", "other", "found", "colour", "inner"]
theorem sc_keys_in : FnScope N_keys_in ["form"] (defScope s_keys_in) := ⟨rfl, rfl, rfl, by decide +kernel, rfl, by decide +kernel, by decide +kernel⟩
theorem b_keys_in : Lw.Bnd "keys_in" s_keys_in ["form"] := fun _ _ _ _ _ _ us hl => match us, hl with | [_], _ => rfl
abbrev s_asked_in : Stmt := topS 23
abbrev N_asked_in : List Str := ["form", "word", "key", "branches", "other", "found", "colour", "inner"]
theorem sc_asked_in : FnScope N_asked_in ["form"] (defScope s_asked_in) := ⟨rfl, rfl, rfl, by decide +kernel, rfl, by decide +kernel, by decide +kernel⟩
theorem b_asked_in : Lw.Bnd "asked_in" s_asked_in ["form"] := fun _ _ _ _ _ _ us hl => match us, hl with | [_], _ => rfl
abbrev s_put : Stmt := topS 24
abbrev N_put : List Str := ["form", "key", "colour", "word", "asked", "branches", "other", "one", "inner"]
theorem sc_put : FnScope N_put ["form", "key", "colour"] (defScope s_put) := ⟨rfl, rfl, rfl, by decide +kernel, rfl, by decide +kernel, by decide +kernel⟩
theorem b_put : Lw.Bnd "put" s_put ["form", "key", "colour"] := fun _ _ _ _ _ _ us hl => match us, hl with | [_, _, _], _ => rfl
abbrev s_general : Stmt := topS 25
abbrev N_general : List Str := ["form", "key", "word", "asked", "branches", "other", "one", "inner"]
theorem sc_general : FnScope N_general ["form", "key"] (defScope s_general) := ⟨rfl, rfl, rfl, by decide +kernel, rfl, by decide +kernel, by decide +kernel⟩
theorem b_general : Lw.Bnd "general" s_general ["form", "key"] := fun _ _ _ _ _ _ us hl => match us, hl with | [_, _], _ => rfl
abbrev s_reduce : Stmt := topS 26
abbrev N_reduce : List Str := ["form", "asked", "colour", "least", "rest", "is_named", "rows", "inner", "key"]
theorem sc_reduce : FnScope N_reduce ["form"] (defScope s_reduce) := ⟨rfl, rfl, rfl, by decide +kernel, rfl, by decide +kernel, by decide +kernel⟩
theorem b_reduce : Lw.Bnd "reduce" s_reduce ["form"] := fun _ _ _ _ _ _ us hl => match us, hl with | [_], _ => rfl
abbrev s_reduced : Stmt := topS 27
abbrev N_reduced : List Str := ["stage", "form"]
theorem sc_reduced : FnScope N_reduced ["stage", "form"] (defScope s_reduced) := ⟨rfl, rfl, rfl, by decide +kernel, rfl, by decide +kernel, by decide +kernel⟩
theorem b_reduced : Lw.Bnd "reduced" s_reduced ["stage", "form"] := fun _ _ _ _ _ _ us hl => match us, hl with | [_, _], _ => rfl
abbrev s_same_value : Stmt := topS 28
abbrev N_same_value : List Str := ["stage", "form", "other_form"]
theorem sc_same_value : FnScope N_same_value ["stage", "form", "other_form"] (defScope s_same_value) := ⟨rfl, rfl, rfl, by decide +kernel, rfl, by decide +kernel, by decide +kernel⟩
theorem b_same_value : Lw.Bnd "same_value" s_same_value ["stage", "form", "other_form"] := fun _ _ _ _ _ _ us hl => match us, hl with | [_, _, _], _ => rfl
abbrev s_law_cell : Stmt := topS 30
abbrev N_law_cell : List Str := ["_law_script", "_law_k", "_law_state", "_law_number"]
theorem sc_law_cell : FnScope N_law_cell ["_law_script", "_law_k"] (defScope s_law_cell) := ⟨rfl, rfl, rfl, by decide +kernel, rfl, by decide +kernel, by decide +kernel⟩
theorem b_law_cell : Lw.Bnd "_law_cell" s_law_cell ["_law_script", "_law_k"] := fun _ _ _ _ _ _ us hl => match us, hl with | [_, _], _ => rfl
abbrev s_law_pool : Stmt := topS 31
abbrev N_law_pool : List Str := ["_law_number", "_law_digits"]
theorem sc_law_pool : FnScope N_law_pool ["_law_number"] (defScope s_law_pool) := ⟨rfl, rfl, rfl, by decide +kernel, rfl, by decide +kernel, by decide +kernel⟩
theorem b_law_pool : Lw.Bnd "_law_pool" s_law_pool ["_law_number"] := fun _ _ _ _ _ _ us hl => match us, hl with | [_], _ => rfl
abbrev s_law_draw : Stmt := topS 32
abbrev N_law_draw : List Str := ["_law_pool_here", "_law_upto", "_law_state", "_law_times", "_law_digit"]
theorem sc_law_draw : FnScope N_law_draw ["_law_pool_here", "_law_upto"] (defScope s_law_draw) := ⟨rfl, rfl, rfl, by decide +kernel, rfl, by decide +kernel, by decide +kernel⟩
theorem b_law_draw : Lw.Bnd "_law_draw" s_law_draw ["_law_pool_here", "_law_upto"] := fun _ _ _ _ _ _ us hl => match us, hl with | [_, _], _ => rfl
abbrev s_law_large : Stmt := topS 33
abbrev N_law_large : List Str := ["_law_pool_here", "_law_rooms", "_law_spots", "_law_menu", "_law_k"]
theorem sc_law_large : FnScope N_law_large ["_law_pool_here"] (defScope s_law_large) := ⟨rfl, rfl, rfl, by decide +kernel, rfl, by decide +kernel, by decide +kernel⟩
theorem b_law_large : Lw.Bnd "_law_large" s_law_large ["_law_pool_here"] := fun _ _ _ _ _ _ us hl => match us, hl with | [_], _ => rfl
abbrev s_law_form : Stmt := topS 34
abbrev N_law_form : List Str := ["_law_pool_here", "_law_spots", "_law_colours", "_law_deep", "_law_pick", "_law_spot", "_law_rows", "_law_found", "_law_colour"]
theorem sc_law_form : FnScope N_law_form ["_law_pool_here", "_law_spots", "_law_colours", "_law_deep"] (defScope s_law_form) := ⟨rfl, rfl, rfl, by decide +kernel, rfl, by decide +kernel, by decide +kernel⟩
theorem b_law_form : Lw.Bnd "_law_form" s_law_form ["_law_pool_here", "_law_spots", "_law_colours", "_law_deep"] := fun _ _ _ _ _ _ us hl => match us, hl with | [_, _, _, _], _ => rfl
abbrev s_law_value : Stmt := topS 35
abbrev N_law_value : List Str := ["_law_shape", "_law_known", "_law_colour", "_law_inner"]
theorem sc_law_value : FnScope N_law_value ["_law_shape", "_law_known"] (defScope s_law_value) := ⟨rfl, rfl, rfl, by decide +kernel, rfl, by decide +kernel, by decide +kernel⟩
theorem b_law_value : Lw.Bnd "_law_value" s_law_value ["_law_shape", "_law_known"] := fun _ _ _ _ _ _ us hl => match us, hl with | [_, _], _ => rfl
abbrev s_law_ends_asked : Stmt := topS 36
abbrev N_law_ends_asked : List Str := ["_law_shape", "_law_spot", "_law_colour", "_law_rows", "_law_tint", "_law_inner"]
theorem sc_law_ends_asked : FnScope N_law_ends_asked ["_law_shape", "_law_spot", "_law_colour"] (defScope s_law_ends_asked) := ⟨rfl, rfl, rfl, by decide +kernel, rfl, by decide +kernel, by decide +kernel⟩
theorem b_law_ends_asked : Lw.Bnd "_law_ends_asked" s_law_ends_asked ["_law_shape", "_law_spot", "_law_colour"] := fun _ _ _ _ _ _ us hl => match us, hl with | [_, _, _], _ => rfl
abbrev s_law_more_branches : Stmt := topS 37
abbrev N_law_more_branches : List Str := ["_law_shape", "_law_colour", "_law_rows", "_law_last", "_law_tint", "_law_inner"]
theorem sc_law_more_branches : FnScope N_law_more_branches ["_law_shape", "_law_colour"] (defScope s_law_more_branches) := ⟨rfl, rfl, rfl, by decide +kernel, rfl, by decide +kernel, by decide +kernel⟩
theorem b_law_more_branches : Lw.Bnd "_law_more_branches" s_law_more_branches ["_law_shape", "_law_colour"] := fun _ _ _ _ _ _ us hl => match us, hl with | [_, _], _ => rfl
abbrev s_law_otherwise : Stmt := topS 38
abbrev N_law_otherwise : List Str := ["_law_pool_here", "_law_shape", "_law_spots", "_law_colours", "_law_way", "_law_spot", "_law_colour", "_law_tint"]
theorem sc_law_otherwise : FnScope N_law_otherwise ["_law_pool_here", "_law_shape", "_law_spots", "_law_colours"] (defScope s_law_otherwise) := ⟨rfl, rfl, rfl, by decide +kernel, rfl, by decide +kernel, by decide +kernel⟩
theorem b_law_otherwise : Lw.Bnd "_law_otherwise" s_law_otherwise ["_law_pool_here", "_law_shape", "_law_spots", "_law_colours"] := fun _ _ _ _ _ _ us hl => match us, hl with | [_, _, _, _], _ => rfl
abbrev s_law_changed : Stmt := topS 39
abbrev N_law_changed : List Str := ["_law_pool_here", "_law_shape", "_law_spots", "_law_colours", "_law_spot", "_law_known", "_law_was", "_law_found"]
theorem sc_law_changed : FnScope N_law_changed ["_law_pool_here", "_law_shape", "_law_spots", "_law_colours"] (defScope s_law_changed) := ⟨rfl, rfl, rfl, by decide +kernel, rfl, by decide +kernel, by decide +kernel⟩
theorem b_law_changed : Lw.Bnd "_law_changed" s_law_changed ["_law_pool_here", "_law_shape", "_law_spots", "_law_colours"] := fun _ _ _ _ _ _ us hl => match us, hl with | [_, _, _, _], _ => rfl
abbrev s_law_right : Stmt := topS 40
abbrev N_law_right : List Str := ["_law_pool_here", "_law_turn", "_law_rooms", "_law_spots", "_law_colours", "_law_shape", "_law_mate", "_law_bent", "_law_least", "_law_told"]
theorem sc_law_right : FnScope N_law_right ["_law_pool_here"] (defScope s_law_right) := ⟨rfl, rfl, rfl, by decide +kernel, rfl, by decide +kernel, by decide +kernel⟩
theorem b_law_right : Lw.Bnd "_law_right" s_law_right ["_law_pool_here"] := fun _ _ _ _ _ _ us hl => match us, hl with | [_], _ => rfl
abbrev s_law : Stmt := topS 41
abbrev N_law : List Str := ["_law_script", "_law_k"]
theorem sc_law : FnScope N_law ["_law_script"] (defScope s_law) := ⟨rfl, rfl, rfl, by decide +kernel, rfl, by decide +kernel, by decide +kernel⟩
theorem b_law : Lw.Bnd "law" s_law ["_law_script"] := fun _ _ _ _ _ _ us hl => match us, hl with | [_], _ => rfl
def gk_bk_same_value_0_other_form_form_stage {α : Type} : List α → List α → List α | [], [z0, z1, z2] => [z2, z1, z0] | _, _ => []
theorem rk_bk_same_value_0_other_form_form_stage {vs zs : List V} {us ws : List Value} (a : Vals vs us) (b : Vals zs ws) : Vals (gk_bk_same_value_0_other_form_form_stage vs zs) (gk_bk_same_value_0_other_form_form_stage us ws) := by
  have la := Paired.length a
  have lb := Paired.length b
  by_cases h1 : vs.length = 0 ∧ zs.length = 3
  · obtain ⟨h1, h2⟩ := h1
    match vs, us, zs, ws, a, b, h1, h2 with
    | [], [], [_, _, _], [_, _, _], .nil, .cons k0 (.cons k1 (.cons k2 (.nil))), _, _ => exact .cons k2 (.cons k1 (.cons k0 (.nil)))
  · have e1 : gk_bk_same_value_0_other_form_form_stage vs zs = [] := by
      unfold gk_bk_same_value_0_other_form_form_stage; split
      · exact absurd ⟨rfl, rfl⟩ h1
      · rfl
    have e2 : gk_bk_same_value_0_other_form_form_stage us ws = [] := by
      unfold gk_bk_same_value_0_other_form_form_stage; split
      · exact absurd ⟨la, lb⟩ h1
      · rfl
    rw [e1, e2]
    exact .nil
theorem bk_same_value_0_other_form_form_stage : Lw.BndK "same_value" s_same_value ["stage", "form", "other_form"] 0 ["other_form", "form", "stage"] (fun {_} => gk_bk_same_value_0_other_form_form_stage) := fun _ _ _ _ _ _ us ws h1 h2 => match us, h1, ws, h2 with | [], _, [_, _, _], _ => rfl
theorem bt_ValueError : bootBuiltins "ValueError" = some (.type "ValueError") := by decide +kernel
theorem bt_abs : bootBuiltins "abs" = some (.builtin "abs") := by decide +kernel
theorem bt_all : bootBuiltins "all" = some (.builtin "all") := by decide +kernel
theorem bt_bool : bootBuiltins "bool" = some (.type "bool") := by decide +kernel
theorem bt_dict : bootBuiltins "dict" = some (.type "dict") := by decide +kernel
theorem bt_divmod : bootBuiltins "divmod" = some (.builtin "divmod") := by decide +kernel
theorem bt_int : bootBuiltins "int" = some (.type "int") := by decide +kernel
theorem bt_isinstance : bootBuiltins "isinstance" = some (.builtin "isinstance") := by decide +kernel
theorem bt_len : bootBuiltins "len" = some (.builtin "len") := by decide +kernel
theorem bt_max : bootBuiltins "max" = some (.builtin "max") := by decide +kernel
theorem bt_min : bootBuiltins "min" = some (.builtin "min") := by decide +kernel
theorem bt_range : bootBuiltins "range" = some (.type "range") := by decide +kernel
theorem bt_repr : bootBuiltins "repr" = some (.builtin "repr") := by decide +kernel
theorem bt_sorted : bootBuiltins "sorted" = some (.builtin "sorted") := by decide +kernel
theorem bt_str : bootBuiltins "str" = some (.type "str") := by decide +kernel
theorem bt_tuple : bootBuiltins "tuple" = some (.type "tuple") := by decide +kernel
theorem bt_zip : bootBuiltins "zip" = some (.type "zip") := by decide +kernel
/-- what stands behind the top -/
structure Txt (K : PySem.W.Frag) (mg : Str → Option Value) : Prop where
  d_is_integer : Lw.DefAt K mg "is_integer" s_is_integer
  d_is_between : Lw.DefAt K mg "is_between" s_is_between
  d_is_name : Lw.DefAt K mg "is_name" s_is_name
  d_is_colour : Lw.DefAt K mg "is_colour" s_is_colour
  d_is_surface : Lw.DefAt K mg "is_surface" s_is_surface
  d_is_stage : Lw.DefAt K mg "is_stage" s_is_stage
  d_is_cell : Lw.DefAt K mg "is_cell" s_is_cell
  d_check_stage : Lw.DefAt K mg "check_stage" s_check_stage
  d_are_branches : Lw.DefAt K mg "are_branches" s_are_branches
  d_has_form : Lw.DefAt K mg "has_form" s_has_form
  d_check_form : Lw.DefAt K mg "check_form" s_check_form
  d_keys_in : Lw.DefAt K mg "keys_in" s_keys_in
  d_asked_in : Lw.DefAt K mg "asked_in" s_asked_in
  d_put : Lw.DefAt K mg "put" s_put
  d_general : Lw.DefAt K mg "general" s_general
  d_reduce : Lw.DefAt K mg "reduce" s_reduce
  d_reduced : Lw.DefAt K mg "reduced" s_reduced
  d_same_value : Lw.DefAt K mg "same_value" s_same_value
  d_law_cell : Lw.DefAt K mg "_law_cell" s_law_cell
  d_law_pool : Lw.DefAt K mg "_law_pool" s_law_pool
  d_law_draw : Lw.DefAt K mg "_law_draw" s_law_draw
  d_law_large : Lw.DefAt K mg "_law_large" s_law_large
  d_law_form : Lw.DefAt K mg "_law_form" s_law_form
  d_law_value : Lw.DefAt K mg "_law_value" s_law_value
  d_law_ends_asked : Lw.DefAt K mg "_law_ends_asked" s_law_ends_asked
  d_law_more_branches : Lw.DefAt K mg "_law_more_branches" s_law_more_branches
  d_law_otherwise : Lw.DefAt K mg "_law_otherwise" s_law_otherwise
  d_law_changed : Lw.DefAt K mg "_law_changed" s_law_changed
  d_law_right : Lw.DefAt K mg "_law_right" s_law_right
  d_law : Lw.DefAt K mg "law" s_law
  b_ValueError : mg "ValueError" = none
  b_abs : mg "abs" = none
  b_all : mg "all" = none
  b_bool : mg "bool" = none
  b_dict : mg "dict" = none
  b_divmod : mg "divmod" = none
  b_int : mg "int" = none
  b_isinstance : mg "isinstance" = none
  b_len : mg "len" = none
  b_max : mg "max" = none
  b_min : mg "min" = none
  b_range : mg "range" = none
  b_repr : mg "repr" = none
  b_sorted : mg "sorted" = none
  b_str : mg "str" = none
  b_tuple : mg "tuple" = none
  b_zip : mg "zip" = none
  g_MOST_SURFACES : ∃ u, mg "MOST_SURFACES" = some u ∧ RelV (.int 6) u
  g_MOST_SIZE : ∃ u, mg "MOST_SIZE" = some u ∧ RelV (.int 1000000000000) u
  g_MOST_COLOUR : ∃ u, mg "MOST_COLOUR" = some u ∧ RelV (.int 1000000000) u
  g_LETTERS : ∃ u, mg "LETTERS" = some u ∧ RelV (.str "abcdefghijklmnopqrstuvwxyz") u
  g_LONGEST_NAME : ∃ u, mg "LONGEST_NAME" = some u ∧ RelV (.int 8) u

end K45
namespace K45
open PySem PySem.Spec PyProof.Rows L2 Evl Lw
section
variable {P : Program} {w : World} {K : PySem.W.Frag} {mg : Str → Option Value} {base : Heap}
theorem c_law_draw (T : Txt K mg) : Cl P w K mg base CX0 1 "_law_draw" s_law_draw ["_law_pool_here", "_law_upto"] spDraw := by
  refine Cl.pool (cl_of (sp := spDraw1) (k := 0) T.d_law_draw sc_law_draw (fun vs H Q E h => ?_) (fun f cdv A outer s H vs Q E hr h => ?_)) spDraw_of
  · obtain ⟨p, m, a, b, c, rfl, _⟩ := h
    rfl
  · obtain ⟨p, m, a, b, c, rfl, hp, h0, h1, q⟩ := h
    have nd := sc_law_draw.nd
    refine ⟨_, (pss_cons (ps_asg (pe_op op_add (pe_ix ix_seq (pv 0) pe_int (fun _ _ => rfl)) pe_int) (pg_sub (pv 0) pe_int set_list))
      (pss_cons (ps_set (i := 2) nd rfl (Or.inl rfl) (pe_ix ix_seq (pv 0) pe_int (fun _ _ => rfl)))
      (pss_cons (ps_set (i := 3) nd rfl (Or.inl rfl) (pe_op op_add (pe_op op_mod (pe_callTy (call_int1) (by rfl) T.b_int bt_int (pa_cons (pv 2) pa_nil)) pe_int) pe_int))
      (pss_cons (ps_asg (pe_op op_mod (pe_callTy (call_int1) (by rfl) T.b_int bt_int (pa_cons (pe_op op_add (pe_op op_add (pe_op op_mul (pv 2) (pv 3)) (pe_op op_mul pe_int (pe_ix ix_seq (pv 0) pe_int (fun _ _ => rfl)))) pe_int) pa_nil)) pe_int) (pg_sub (pv 0) pe_int set_list))
      (pss_cons (ps_if (pt_cmpR op_gt (pe_ix ix_seq (pv 0) pe_int (fun _ _ => rfl)) pe_int (nomark _)) (pss_cons (ps_asg (pe_callB (call_divmodW) (by rfl) T.b_divmod bt_divmod (pa_cons (pe_ix ix_seq (pv 0) pe_int (fun _ _ => rfl)) (pa_cons (pv 1) pa_nil))) (pg_tup rfl (pgs_cons (pg_sub (pv 0) pe_int set_list) (pgs_cons (pg_name (i := 4) nd rfl (Or.inl rfl)) pgs_nil))))
      (pss_one (ps_ret (pv 4)))) pss_nil)
      (pss_one (ps_ret (pe_op op_mod (pe_callTy (call_int1) (by rfl) T.b_int bt_int (pa_cons (pe_op op_fdiv (pe_ix ix_seq (pv 0) pe_int (fun _ _ => rfl)) pe_int) pa_nil)) (pv 1))))))))), ?_⟩
    repeat fail "st"
    refine .inl ⟨_, rfl, ?_⟩
    repeat fail "st"
    refine .inl ⟨_, rfl, ?_⟩
    repeat fail "st"
    refine ifD (fun hb => ?_) (fun hb => ?_)
    · repeat fail "st"
      refine ⟨cdivp h0 h1, fun t ht => ?_⟩
      have np : p ≠ t := ne_of_none upd_same ht
      repeat fail "st"
      exact q _ _ _ _ _ (But.mut (But.new (But.mut (But.mut But.refl)) ht)) upd_same (Int.emod_nonneg _ (by omega)) (Int.emod_lt_of_pos _ h0)
    · repeat fail "st"
      refine .inl ⟨_, rfl, ?_⟩
      repeat fail "st"
      exact q _ _ _ _ _ (But.mut (But.mut But.refl)) upd_same (Int.emod_nonneg _ (by omega)) (Int.emod_lt_of_pos _ h0)
theorem c_law_pool (T : Txt K mg) : Cl P w K mg base CX0 1 "_law_pool" s_law_pool ["_law_number"] spPool := by
  refine Cl.newpool (cl_of (sp := spPool1) (k := 0) T.d_law_pool sc_law_pool (fun vs H Q E h => ?_) (fun f cdv A outer s H vs Q E hr h => ?_)) spPool_of
  · obtain ⟨i, rfl, _⟩ := h
    rfl
  · obtain ⟨i, rfl, q⟩ := h
    have nd := sc_law_pool.nd
    refine ⟨_, (pss_cons (ps_set (i := 1) nd rfl (Or.inl rfl) (pe_ifExp (PW.pt (pw_or (pt_cmpR op_lt (pv 0) pe_int (nomark _)) (pw_or1 (pt_cmpR op_ge (pv 0) (pe_op op_pow pe_int pe_int) (nomark _))))) (pe_callB (call_abs) (by rfl) T.b_abs bt_abs (pa_cons (pv 0) pa_nil)) pe_int))
      (pss_one (ps_ret (pe_lst (pa_cons (pe_op op_mod (pe_callTy (call_int1) (by rfl) T.b_int bt_int (pa_cons (pv 0) pa_nil)) pe_int) (pa_cons (pv 1) (pa_cons pe_int pa_nil))))))), ?_⟩
    repeat fail "st"
    refine ifD (fun hb => ?_) (fun hb => ?_)
    · repeat fail "st"
      refine iteT (B := True) ?_
      repeat fail "st"
      refine .inl ⟨_, rfl, ?_⟩
      repeat fail "st"
      exact fun t ht => q t _ _ _ _ ht upd_same (Ex.new ht)
    · repeat fail "st"
      refine ifD (fun hb => ?_) (fun hb => ?_)
      · repeat fail "st"

        refine .inl ⟨_, rfl, ?_⟩
        repeat fail "st"
        exact fun t ht => q t _ _ _ _ ht upd_same (Ex.new ht)
      · repeat fail "st"
        refine .inl ⟨_, rfl, ?_⟩
        repeat fail "st"
        exact fun t ht => q t _ _ _ _ ht upd_same (Ex.new ht)
theorem c_law_cell (T : Txt K mg) : Cl P w K mg base CX0 1 "_law_cell" s_law_cell ["_law_script", "_law_k"] (Lw.spCell K) := by
  refine cl_of (k := 0) T.d_law_cell sc_law_cell (fun vs H Q E h => ?_) (fun f cdv A outer s H vs Q E hr h => ?_)
  · obtain ⟨a, ns, i, rfl, _⟩ := h
    rfl
  · obtain ⟨a, ns, i, rfl, hS, hl, h0, h1, q⟩ := h
    have nd := sc_law_cell.nd
    refine ⟨_, (pss_cons (ps_if (pt_cmpR op_lt (pv 1) (pe_callB (call_len) (by rfl) T.b_len bt_len (pa_cons (pv 0) pa_nil)) (nomark _)) (pss_one (ps_ret (pe_ix ix_seq (pv 0) (pv 1) (fun _ _ => rfl)))) pss_nil)
      (pss_cons (ps_set (i := 2) nd rfl (Or.inl rfl) (pe_op op_mod (pe_callTy (call_int1) (by rfl) T.b_int bt_int (pa_cons (pe_op op_mul pe_int (pe_op op_add (pe_op op_add (pe_op op_mul (pv 1) (pv 1)) (pe_op op_mul pe_int (pv 1))) pe_int)) pa_nil)) pe_int))
      (pss_cons (ps_for PassesOwn.never rfl (pi_list (pe_slice sl_list (pv 0) po_none (po_some pe_int))) (pg_name (i := 3) nd rfl (Or.inl rfl)) (pss_one (ps_set (i := 2) nd rfl (Or.inl rfl) (pe_op op_mod (pe_callTy (call_int1) (by rfl) T.b_int bt_int (pa_cons (pe_op op_add (pe_op op_mul (pv 2) pe_int) (pv 3)) pa_nil)) pe_int))))
      (pss_one (ps_ret (pv 2)))))), ?_⟩
    repeat fail "st"
    refine ifD (fun hb => ?_) (fun hb => ?_)
    · rw [List.length_map] at hb
      obtain ⟨j, rfl⟩ := Int.eq_ofNat_of_zero_le h0
      have hj : j < ns.length := by omega
      have ga : atI (ns.map V.int) (j : Int) = some (.int ns[j]) := atI_nat (by rw [List.getElem?_map, List.getElem?_eq_getElem hj]; rfl)
      repeat fail "st"
      exact q _ _ (Ex.refl H)
    · repeat fail "st"
      refine .inl ⟨_, rfl, ?_⟩
      repeat fail "st"
      intro c nc
      refine ⟨_, rfl, ⟨_, SqL.of upd_same⟩, ?_⟩
      refine for_list (xs := cutV (ns.map V.int) none (some 3)) (fun _ σ H' => ∃ (z : Int) (y : Option V), σ = [some (.ref a), some (.int i), some (.int z), y] ∧ H' = upd H c (.lst (cutV (ns.map V.int) none (some 3)))) ⟨_, _, rfl, rfl⟩ ?_ ?_ ?_
      · rintro _ _ _ _ ⟨z, y, rfl, rfl⟩
        exact SqL.of upd_same
      · rintro _ x _ _ hx ⟨z, y, rfl, rfl⟩
        obtain ⟨n, rfl⟩ := cut_int hx
        repeat fail "st"
        refine .inl ⟨_, rfl, ?_⟩
        repeat fail "st"
        rfl
      · rintro _ _ ⟨z, y, rfl, rfl⟩
        repeat fail "st"
        exact q _ _ (Ex.new nc)
end

end K45
namespace K45
open PySem PySem.Spec PyProof.Rows L2 Evl Lw
section
variable {P : Program} {w : World} {K : PySem.W.Frag} {mg : Str → Option Value} {base : Heap}
theorem c_is_integer (T : Txt K mg) : Cl P w K mg base CX0 1 "is_integer" s_is_integer ["value"] spInteger := by
  refine cl_of (k := 0) T.d_is_integer sc_is_integer (fun vs H Q E h => ?_) (fun f cdv A outer s H vs Q E hr h => ?_)
  · obtain ⟨v, n, rfl, _⟩ := h
    rfl
  · obtain ⟨v, n, rfl, k, q⟩ := h
    have nd := sc_is_integer.nd
    refine ⟨_, (pss_one (ps_ret (pe_and (pe_callB (call_isi) (by rfl) T.b_isinstance bt_isinstance (pa_cons (pv 0) (pa_cons (pe_bltn (v := .ty "int") (by rfl) T.b_int bt_int rfl) pa_nil))) (pe_one (pe_not (pe_callB (call_isi) (by rfl) T.b_isinstance bt_isinstance (pa_cons (pv 0) (pa_cons (pe_bltn (v := .ty "bool") (by rfl) T.b_bool bt_bool rfl) pa_nil)))))))), ?_⟩
    repeat fail "st"
    refine ifB (fun h => ?_) (fun h => ?_)
    · repeat fail "st"
      rw [int_yes k h] at q
      exact q
    · rw [int_no h] at q
      exact q
theorem c_is_between (T : Txt K mg) : Cl P w K mg base CX0 2 "is_between" s_is_between ["value", "low", "high"] spBetween := by
  refine cl_of (k := 1) T.d_is_between sc_is_between (fun vs H Q E h => ?_) (fun f cdv A outer s H vs Q E hr h => ?_)
  · obtain ⟨v, lo, hi, n, rfl, _⟩ := h
    rfl
  · obtain ⟨v, lo, hi, n, rfl, k, q⟩ := h
    have nd := sc_is_between.nd
    refine ⟨_, (pss_one (ps_ret (pe_and (Lw.pe_cl (c_is_integer T) b_is_integer hr (by decide) (by rfl) pass0 (pa_cons (pv 0) pa_nil)) (pe_one (pe_chain op_le op_le (pv 1) (pv 0) (pv 2)))))), ?_⟩
    repeat fail "st"
    refine ifB (fun h => ?_) (fun h => ?_)
    · obtain ⟨i, rfl⟩ := k.of_int h
      repeat fail "st"
      refine ifD (fun h1 => ?_) (fun h1 => ?_)
      · repeat fail "st"
        rw [inB, decide_eq_true h1] at q
        exact q
      · rw [inB, decide_eq_false h1] at q
        exact q
    · rw [inB_no k h] at q
      exact q
end

end K45
namespace K45
open PySem PySem.Spec PyProof.Rows L2 Evl Lw
section
variable {P : Program} {w : World} {K : PySem.W.Frag} {mg : Str → Option Value} {base : Heap}
section
variable {H1 : Hp} {D : Addr} {g : TG} {tt : TT} {te : TE} {vs : List Nat} {σ : L2.St} {Qd : Hp → Prop} {z : Str}
/-- a comprehension over the signs of a text -/
theorem lcS (Pe : PeT) (mono : Mono Pe) (hD : H1 D = none) (hn : z.cps.size ≤ 50000) (hs : ∀ i c, z.cps[i]? = some c → LcTurn Pe H1 g tt te vs σ i (.str ⟨#[c]⟩))
    (hd : ∀ H' (os : List (Option V)), Ex H1 H' → os.length = z.cps.size → H' D = some (.lst (os.filterMap id)) → (∀ i o, os[i]? = some o → Pe i o H') → Qd H') :
    ∃ W : Nat → Nat → Hp → Prop, (∃ m, W 0 m (upd H1 D (.lst []))) ∧ ∀ i m H, W i m H →
      ((Its z).stop i H ∧ Qd H) ∨ ((Its z).go i H ∧ ∃ Nx : Hp → Prop, (∀ H', Nx H' → ∃ m', m' < m ∧ W (i + 1) m' H') ∧ ∀ x H', (Its z).yld i H x H' → g x (wipe σ vs) H' fun σ2 H2 => wipe σ2 vs = wipe σ vs ∧ tt σ2 H2 fun b H3 =>
        if b = true then te σ2 H3 fun y H4 => ∃ acc, H4 D = some (.lst acc) ∧ acc.length < sizeLine ∧ Nx (upd H4 D (.lst (acc ++ [y]))) else Nx H3) := by
  refine ⟨fun i m H => m = z.cps.size - i ∧ i ≤ z.cps.size ∧ LcI H1 D Pe i H, ⟨z.cps.size, by simp, Nat.zero_le _, LcI.start hD⟩, ?_⟩
  rintro i m H ⟨rfl, hi, I⟩
  by_cases hlt : i < z.cps.size
  · refine .inr ⟨hlt, LcI H1 D Pe (i + 1), fun H' p' => ⟨z.cps.size - (i + 1), by omega, rfl, hlt, p'⟩, fun x H' y => ?_⟩
    obtain ⟨rfl, c, hc, rfl⟩ := y
    exact hs i c hc H' I.ex _ _ (fun y H4 e p => I.more mono (by omega) e p) (fun H4 e p => I.less mono e p)
  · have e : i = z.cps.size := by omega
    subst e
    refine .inl ⟨Nat.le_refl _, ?_⟩
    obtain ⟨_, e, os, hl, h, p⟩ := I
    exact hd H os e hl h p
end
/-- a name: one to eight small letters -/
def nameB (s : Str) : Bool := decide (0 < (s.length : Int) ∧ (s.length : Int) ≤ 8) && s.cps.toList.all fun c => decide (c ∈ (Str.ofString "abcdefghijklmnopqrstuvwxyz").cps.toList)
def nameV : V → Bool
  | .str s => nameB s
  | _ => false
def Short (v : V) : Prop := ∀ s, v = .str s → s.length ≤ 1000
def spName : Sp := fun vs H Q _ => ∃ v n, vs = [v] ∧ Kd H v n ∧ Short v ∧ ∀ H', Ex H H' → Q (.bl (nameV v)) H'
theorem name_no {H : Hp} {v : V} {n : String} (k : Kd H v n) (h : isK n "str" = false) : nameV v = false := by
  cases k with
  | str x => cases h
  | _ => rfl
theorem c_is_name (T : Txt K mg) : Cl P w K mg base CX0 1 "is_name" s_is_name ["value"] spName := by
  refine cl_of (k := 0) T.d_is_name sc_is_name (fun vs H Q E h => ?_) (fun f cdv A outer s H vs Q E hr h => ?_)
  · obtain ⟨v, n, rfl, _⟩ := h
    rfl
  · obtain ⟨v, n, rfl, k, sh, q⟩ := h
    have nd := sc_is_name.nd
    refine ⟨_, (pss_one (ps_ret (pe_and (pe_callB (call_isi) (by rfl) T.b_isinstance bt_isinstance (pa_cons (pv 0) (pa_cons (pe_bltn (v := .ty "str") (by rfl) T.b_str bt_str rfl) pa_nil))) (pe_and (pe_chain op_lt op_le pe_int (pe_callB (call_len_str) (by rfl) T.b_len bt_len (pa_cons (pv 0) pa_nil)) (C8.pe_gc (by rfl) T.g_LONGEST_NAME)) (pe_one (pe_callB (cr_all rfl) (by rfl) T.b_all bt_all (pa_cons (pe_lc (own := [("sign", 1)]) (g := gName 1) (tt := tYes) rfl nd (pi_str (pv 0)) (L2.blkOk_by (N := N_is_name) (sc := defScope s_is_name) (by decide +kernel)) (fun _ _ _ _ _ => (pg_name (i := 1) nd rfl (Or.inl rfl))) (fun _ _ _ _ _ => pts_nil) (fun _ _ _ _ _ => (pe_cmpR op_in_sign (pv 1) (C8.pe_gc (by rfl) T.g_LETTERS) (by rfl)))) pa_nil))))))), ?_⟩
    repeat fail "st"
    refine ifB (fun h => ?_) (fun h => ?_)
    · obtain ⟨z, rfl⟩ : ∃ z, v = .str z := by
        cases k with
        | str z => exact ⟨z, rfl⟩
        | _ => cases h
      have lz := sh z rfl
      have zl : 60000 ≤ sizeLine := by rw [sizeLine_eq]; decide
      repeat fail "st"
      refine ⟨by omega, ?_⟩
      repeat fail "st"
      refine ifD (fun h1 => ?_) (fun h1 => ?_)
      · repeat fail "st"
        refine ifD (fun h2 => ?_) (fun h2 => ?_)
        · repeat fail "st"
          intro D hD
          have lc : z.cps.size ≤ 50000 := by have : z.length = z.cps.size := rfl; omega
          refine lcS (All fun i v _ => ∃ c, z.cps[i]? = some c ∧ v = V.bl (decide (c ∈ (Str.ofString "abcdefghijklmnopqrstuvwxyz").cps.toList))) (all_mono fun _ _ _ _ _ h => h) hD lc (fun i c hc G e Q1 Q2 q1 q2 => ?_) (fun H2 os e2 hl2 hD2 hp2 => ?_)
          · repeat fail "st"
            exact q1 _ _ (Ex.refl _) ⟨_, rfl, c, hc, rfl⟩
          obtain ⟨ys, ey, ly, hy⟩ := All.end hp2
          rw [ey] at hD2
          have eb : ys = (z.cps.toList.map fun c => decide (c ∈ (Str.ofString "abcdefghijklmnopqrstuvwxyz").cps.toList)).map V.bl := by
            refine List.ext_getElem? fun i => ?_
            rw [List.getElem?_map, List.getElem?_map, show z.cps.toList[i]? = z.cps[i]? from by simp]
            by_cases hi : i < ys.length
            · obtain ⟨c, hc, e⟩ := hy i _ (List.getElem?_eq_getElem hi)
              rw [List.getElem?_eq_getElem hi, e, hc]
              rfl
            · rw [List.getElem?_eq_none (by omega), Array.getElem?_eq_none (by omega)]
              rfl
          rw [eb] at hD2
          clear hp2 hy ey eb
          repeat fail "st"
          have e : nameV (.str z) = (z.cps.toList.map fun c => decide (c ∈ (Str.ofString "abcdefghijklmnopqrstuvwxyz").cps.toList)).all id := by
            show (decide _ && _) = _
            rw [decide_eq_true ⟨h1, h2⟩, Bool.true_and, List.all_map]
            rfl
          rw [← e]
          exact q _ e2
        · have e : nameV (.str z) = false := by
            show (decide _ && _) = false
            rw [decide_eq_false (fun h => h2 h.2)]
            rfl
          rw [e] at q
          repeat fail "st"
          exact q _ (Ex.refl _)
      · have e : nameV (.str z) = false := by
          show (decide _ && _) = false
          rw [decide_eq_false (fun h => h1 h.1)]
          rfl
        rw [e] at q
        repeat fail "st"
        exact q _ (Ex.refl _)
    · rw [name_no k h] at q
      exact q _ (Ex.refl _)
end

end K45
namespace K45
open PySem PySem.Spec PyProof.Rows L2 Evl Lw
section
variable {P : Program} {w : World} {K : PySem.W.Frag} {mg : Str → Option Value} {base : Heap}
/-- a surface: its name, its width, its height -/
abbrev Sfc := Str × Int × Int
def sideB (i : Int) : Bool := decide (1 ≤ i) && decide (i ≤ 1000000000000)
def surf3 (a b c : V) : Option Sfc := match a, b, c with
  | .str s, .int w, .int h => if (nameB s && (sideB w && sideB h)) = true then some (s, w, h) else none
  | _, _, _ => none
def surfL : List V → Option Sfc
  | [a, b, c] => surf3 a b c
  | _ => none
/-- a value that is looked at as a surface -/
inductive Sf (H : Hp) : V → Option Sfc → Prop
  | other {v : V} {n : String} (k : Kd H v n) (h : n ≠ "tuple") : Sf H v none
  | tup {a : Addr} {xs : List V} (h : H a = some (.tup xs)) (ks : ∀ x ∈ xs, (∃ n, Kd H x n) ∧ Short x) : Sf H (.ref a) (surfL xs)
theorem kd_ext {H H' : Hp} {v : V} {n : String} (k : Kd H v n) (e : LamX.ExtN H H') : Kd H' v n := k.upN e
theorem Sf.upN {H H' : Hp} {v : V} {o : Option Sfc} (e : LamX.ExtN H H') (h : Sf H v o) : Sf H' v o := by
  cases h with
  | other k h => exact .other (k.upN e) h
  | tup h ks => exact .tup (e _ _ h fun ps z => by cases z) fun x m => ⟨let ⟨n, k⟩ := (ks x m).1; ⟨n, k.upN e⟩, (ks x m).2⟩
theorem Sf.up {H H' : Hp} {v : V} {o : Option Sfc} (e : Ex H H') (h : Sf H v o) : Sf H' v o := h.upN (ExtN.ex e)
def spSurface : Sp := fun vs H Q _ => ∃ v o, vs = [v] ∧ Sf H v o ∧ ∀ H', Ex H H' → Q (.bl o.isSome) H'
theorem surfL_len {xs : List V} (h : xs.length ≠ 3) : surfL xs = none := by
  match xs, h with
  | [], _ => rfl
  | [_], _ => rfl
  | [_, _], _ => rfl
  | [_, _, _], h => exact absurd rfl h
  | _ :: _ :: _ :: _ :: _, _ => rfl
theorem surfL_some (a b c : V) : (surfL [a, b, c]).isSome = (nameV a && (inB 1 1000000000000 b && inB 1 1000000000000 c)) := by
  show (surf3 a b c).isSome = _
  unfold surf3
  split
  · show (ite _ _ _ : Option Sfc).isSome = (nameB _ && (sideB _ && sideB _))
    split
    · rename_i h
      exact h.symm
    · rename_i h
      exact (Bool.eq_false_iff.mpr h).symm
  · rename_i h
    cases a <;> first | rfl | skip
    cases b <;> first | (simp [inB]; done) | skip
    cases c <;> first | (simp [inB]; done) | skip
    exact absurd rfl (h _ _ _ rfl rfl)
theorem three {xs : List V} (h : xs.length = 3) : ∃ a b c, xs = [a, b, c] := match xs, h with
  | [a, b, c], _ => ⟨a, b, c, rfl⟩
theorem c_is_surface (T : Txt K mg) : Cl P w K mg base CX0 3 "is_surface" s_is_surface ["value"] spSurface := by
  refine cl_of (k := 2) T.d_is_surface sc_is_surface (fun vs H Q E h => ?_) (fun f cdv A outer s H vs Q E hr h => ?_)
  · obtain ⟨v, o, rfl, _⟩ := h
    rfl
  · obtain ⟨v, o, rfl, sv, q⟩ := h
    have nd := sc_is_surface.nd
    refine ⟨_, (pss_cons (ps_if (PW.pt (pw_or (pt_not (pt_val (pe_callB (call_isi) (by rfl) T.b_isinstance bt_isinstance (pa_cons (pv 0) (pa_cons (pe_bltn (v := .ty "tuple") (by rfl) T.b_tuple bt_tuple rfl) pa_nil))))) (pw_or (pt_cmpR op_ne (pe_callB (call_len) (by rfl) T.b_len bt_len (pa_cons (pv 0) pa_nil)) pe_int (nomark _)) (pw_or1 (pt_not (pt_val (Lw.pe_cl (c_is_name T) b_is_name hr (by decide) (by rfl) pass0 (pa_cons (pe_ix ix_seq (pv 0) pe_int (fun _ _ => rfl)) pa_nil)))))))) (pss_one (ps_ret pe_bl)) pss_nil)
      (pss_one (ps_ret (pe_and (Lw.pe_cl (c_is_between T) b_is_between hr (by decide) (by rfl) pass0 (pa_cons (pe_ix ix_seq (pv 0) pe_int (fun _ _ => rfl)) (pa_cons pe_int (pa_cons (C8.pe_gc (by rfl) T.g_MOST_SIZE) pa_nil)))) (pe_one (Lw.pe_cl (c_is_between T) b_is_between hr (by decide) (by rfl) pass0 (pa_cons (pe_ix ix_seq (pv 0) pe_int (fun _ _ => rfl)) (pa_cons pe_int (pa_cons (C8.pe_gc (by rfl) T.g_MOST_SIZE) pa_nil))))))))), ?_⟩
    cases sv with
    | other k h =>
      repeat fail "st"
      refine ifB (fun h => ?_) (fun h1 => ?_)
      · exact q _ (Ex.refl _)
      · rw [isK_ne h (by decide)] at h1
        cases h1
    | @tup a xs h ks =>
      repeat fail "st"
      refine ifN (fun hl => ?_) (fun hl => ?_)
      · rw [surfL_len (fun z => hl (lenN.mpr z))] at q
        exact q _ (Ex.refl _)
      · obtain ⟨x, y, z, rfl⟩ := three (lenN.mp hl)
        obtain ⟨⟨nx, kx⟩, sx⟩ := ks x (by simp)
        obtain ⟨⟨ny, ky⟩, _⟩ := ks y (by simp)
        obtain ⟨⟨nz, kz⟩, _⟩ := ks z (by simp)
        rw [surfL_some] at q
        repeat fail "st"
        refine ⟨sx, fun H1 e1 => ?_⟩
        have h := e1 _ _ h
        have ky := ky.ex e1
        have kz := kz.ex e1
        repeat fail "st"
        refine ifNt (fun ha => ?_) (fun ha => ?_)
        · rw [ha] at q
          exact q _ e1
        rw [ha] at q
        repeat fail "st"
        refine ifB (fun hb => ?_) (fun hb => ?_)
        · rw [hb] at q
          repeat fail "st"
          exact q _ e1
        · rw [hb] at q
          exact q _ e1
end

end K45
namespace K45
open PySem PySem.Spec PyProof.Rows L2 Evl Lw
section
variable {P : Program} {w : World} {K : PySem.W.Frag} {mg : Str → Option Value} {base : Heap}
theorem paired_imp2 {α β : Type} {R S : α → β → Prop} (h : ∀ a b, R a b → S a b) : ∀ {as : List α} {bs : List β}, Paired R as bs → Paired S as bs
  | _, _, .nil => .nil
  | _, _, .cons r t => .cons (h _ _ r) (paired_imp2 h t)
def nmOf (l : List Sfc) (i : Nat) : List Nat := match l[i]? with
  | some s => s.1.cps.toList
  | none => []
def ascB (l : List Sfc) : Bool := ((List.range (l.length - 1)).map fun i => decide (nmOf l i < nmOf l (i + 1))).all id
def stageL (os : List (Option Sfc)) : Option (List Sfc) := if ((decide (0 < (os.length : Int) ∧ (os.length : Int) ≤ 6)) && ((os.map (·.isSome)).all id && ascB (os.filterMap id))) = true then some (os.filterMap id) else none
/-- a value that is looked at as a stage -/
inductive Sg (H : Hp) : V → Option (List Sfc) → Prop
  | other {v : V} {n : String} (k : Kd H v n) (h : n ≠ "tuple") : Sg H v none
  | tup {a : Addr} {xs : List V} {os : List (Option Sfc)} (h : H a = some (.tup xs)) (r : Paired (Sf H) xs os) (hl : xs.length ≤ 1000) : Sg H (.ref a) (stageL os)
theorem Sg.upN {H H' : Hp} {v : V} {o : Option (List Sfc)} (e : LamX.ExtN H H') (h : Sg H v o) : Sg H' v o := by
  cases h with
  | other k h => exact .other (k.upN e) h
  | tup h r hl => exact .tup (e _ _ h fun ps z => by cases z) (paired_imp2 (fun _ _ h => h.upN e) r) hl
theorem Sg.up {H H' : Hp} {v : V} {o : Option (List Sfc)} (e : Ex H H') (h : Sg H v o) : Sg H' v o := h.upN (ExtN.ex e)
theorem sf_some {H : Hp} {v : V} {s : Sfc} (h : Sf H v (some s)) : ∃ t, v = .ref t ∧ H t = some (.tup [.str s.1, .int s.2.1, .int s.2.2]) ∧ nameB s.1 = true ∧ sideB s.2.1 = true ∧ sideB s.2.2 = true := by
  generalize eo : some s = o at h
  cases h with
  | other k h => cases eo
  | @tup a xs h ks =>
    match xs, eo with
    | [x, y, z], eo =>
      replace eo : some s = surf3 x y z := eo
      unfold surf3 at eo
      split at eo
      · split at eo
        · rename_i c
          cases eo
          simp only [Bool.and_eq_true] at c
          exact ⟨a, rfl, h, c.1, c.2.1, c.2.2⟩
        · cases eo
      · cases eo
/-- the surfaces of a stage, in the heap -/
abbrev Sfs (H : Hp) (ts : List Addr) (l : List Sfc) : Prop := Paired (fun t (s : Sfc) => H t = some (.tup [.str s.1, .int s.2.1, .int s.2.2])) ts l
theorem Sfs.up {H H' : Hp} (e : Ex H H') {ts : List Addr} {l : List Sfc} (h : Sfs H ts l) : Sfs H' ts l := paired_imp2 (fun _ _ h => e _ _ h) h
theorem sfs_of {H : Hp} : ∀ {xs : List V} {os : List (Option Sfc)}, Paired (Sf H) xs os → (os.map (·.isSome)).all id = true → ∃ ts : List Addr, xs = ts.map V.ref ∧ Sfs H ts (os.filterMap id) ∧ (os.filterMap id).length = os.length
  | _, _, .nil, _ => ⟨[], rfl, .nil, rfl⟩
  | _, none :: os, .cons _ _, h => by simp at h
  | _, some s :: os, .cons r t, h => by
    obtain ⟨ts, e, q, l⟩ := sfs_of t (by simpa using h)
    obtain ⟨t, rfl, ht, _⟩ := sf_some r
    exact ⟨t :: ts, by rw [e]; rfl, .cons ht q, by show (os.filterMap id).length + 1 = os.length + 1; rw [l]⟩
def spStage : Sp := fun vs H Q _ => ∃ v o, vs = [v] ∧ Sg H v o ∧ ∀ H', Ex H H' → Q (.bl o.isSome) H'
theorem stageL_no {os : List (Option Sfc)} (h : ((decide (0 < (os.length : Int) ∧ (os.length : Int) ≤ 6)) && ((os.map (·.isSome)).all id && ascB (os.filterMap id))) = false) : (stageL os).isSome = false := by
  unfold stageL
  rw [if_neg (by rw [h]; exact Bool.false_ne_true)]
  rfl
theorem stageL_is {os : List (Option Sfc)} : (stageL os).isSome = ((decide (0 < (os.length : Int) ∧ (os.length : Int) ≤ 6)) && ((os.map (·.isSome)).all id && ascB (os.filterMap id))) := by
  cases e : ((decide (0 < (os.length : Int) ∧ (os.length : Int) ≤ 6)) && ((os.map (·.isSome)).all id && ascB (os.filterMap id)))
  · exact stageL_no e
  · unfold stageL
    rw [if_pos e]
    rfl
theorem c_is_stage (T : Txt K mg) : Cl P w K mg base CX0 4 "is_stage" s_is_stage ["value"] spStage := by
  refine cl_of (k := 3) T.d_is_stage sc_is_stage (fun vs H Q E h => ?_) (fun f cdv A outer s H vs Q E hr h => ?_)
  · obtain ⟨v, o, rfl, _⟩ := h
    rfl
  · obtain ⟨v, o, rfl, sv, q⟩ := h
    have nd := sc_is_stage.nd
    refine ⟨_, (pss_cons (ps_if (PW.pt (pw_or (pt_not (pt_val (pe_callB (call_isi) (by rfl) T.b_isinstance bt_isinstance (pa_cons (pv 0) (pa_cons (pe_bltn (v := .ty "tuple") (by rfl) T.b_tuple bt_tuple rfl) pa_nil))))) (pw_or1 (pt_not (pt_chain op_lt op_le pe_int (pe_callB (call_len) (by rfl) T.b_len bt_len (pa_cons (pv 0) pa_nil)) (C8.pe_gc (by rfl) T.g_MOST_SURFACES)))))) (pss_one (ps_ret pe_bl)) pss_nil)
      (pss_cons (ps_if (pt_not (pt_val (pe_callB (cr_all rfl) (by rfl) T.b_all bt_all (pa_cons (pe_lc (own := [("surface", 2)]) (g := gName 2) (tt := tYes) rfl nd (pi_tup (pv 0)) (L2.blkOk_by (N := N_is_stage) (sc := defScope s_is_stage) (by decide +kernel)) (fun _ _ _ _ _ => (pg_name (i := 2) nd rfl (Or.inl rfl))) (fun _ _ _ _ _ => pts_nil) (fun _ _ _ _ _ => (Lw.pe_cl (c_is_surface T) b_is_surface hr (by decide) (by rfl) pass0 (pa_cons (pv 2) pa_nil)))) pa_nil)))) (pss_one (ps_ret pe_bl)) pss_nil)
      (pss_one (ps_ret (pe_callB (cr_all rfl) (by rfl) T.b_all bt_all (pa_cons (pe_lc (own := [("index", 1)]) (g := gName 1) (tt := tYes) rfl nd (pi_range1 (by rfl) T.b_range (pa_cons (pe_op op_sub (pe_callB (call_len) (by rfl) T.b_len bt_len (pa_cons (pv 0) pa_nil)) pe_int) pa_nil)) (L2.blkOk_by (N := N_is_stage) (sc := defScope s_is_stage) (by decide +kernel)) (fun _ _ _ _ _ => (pg_name (i := 1) nd rfl (Or.inl rfl))) (fun _ _ _ _ _ => pts_nil) (fun _ _ _ _ _ => (pe_cmpR op_lt_str (pe_ix (ix_seq : IxR _ (rIx K)) (pe_ix (ix_seq : IxR _ (rIx K)) (pv 0) (pv 1) (fun _ _ => rfl)) pe_int (fun _ _ => rfl)) (pe_ix (ix_seq : IxR _ (rIx K)) (pe_ix (ix_seq : IxR _ (rIx K)) (pv 0) (pe_op op_add (pv 1) pe_int) (fun _ _ => rfl)) pe_int (fun _ _ => rfl)) (nomark _)))) pa_nil)))))), ?_⟩
    cases sv with
    | other k h =>
      repeat fail "st"
      refine ifB (fun h => ?_) (fun h1 => ?_)
      · exact q _ (Ex.refl _)
      · rw [isK_ne h (by decide)] at h1
        cases h1
    | @tup a xs os h r hl =>
      rw [stageL_is] at q
      have lx := Paired.length r
      have zl : 60000 ≤ sizeLine := by rw [sizeLine_eq]; decide
      repeat fail "st"
      refine ifD (fun h1 => ?_) (fun h1 => ?_)
      · repeat fail "st"
        refine ifN (fun h2 => ?_) (fun h2 => ?_)
        · rw [show decide (0 < (os.length : Int) ∧ (os.length : Int) ≤ 6) = false from decide_eq_false fun z => h2 (by omega), Bool.false_and] at q
          repeat fail "st"
          exact q _ (Ex.refl _)
        · rw [show decide (0 < (os.length : Int) ∧ (os.length : Int) ≤ 6) = true from decide_eq_true ⟨by omega, by omega⟩, Bool.true_and] at q
          repeat fail "st"
          intro D hD
          refine lcT (All fun i v _ => ∃ o, os[i]? = some o ∧ v = V.bl o.isSome) (all_mono fun _ _ _ _ _ h => h) hD (SqT.of h) (by omega) (fun i v hi G e Q1 Q2 q1 q2 => ?_) (fun H2 os2 e2 hl2 hD2 hp2 => ?_)
          · obtain ⟨o, ho, so⟩ := paired_at r hi
            repeat fail "st"
            exact ⟨v, o, rfl, so.up e, fun H4 e4 => q1 _ _ e4 ⟨_, rfl, o, ho, rfl⟩⟩
          obtain ⟨ys, ey, ly, hy⟩ := All.end hp2
          rw [ey] at hD2
          have eb : ys = (os.map (·.isSome)).map V.bl := by
            refine List.ext_getElem? fun i => ?_
            rw [List.getElem?_map, List.getElem?_map]
            by_cases hi : i < ys.length
            · obtain ⟨o, ho, e⟩ := hy i _ (List.getElem?_eq_getElem hi)
              rw [List.getElem?_eq_getElem hi, e, ho]
              rfl
            · rw [List.getElem?_eq_none (by omega), List.getElem?_eq_none (by omega)]
              rfl
          rw [eb] at hD2
          clear hp2 hy ey eb
          repeat fail "st"
          refine ifNt (fun ha => ?_) (fun ha => ?_)
          · rw [ha, Bool.false_and] at q
            exact q _ e2
          rw [ha, Bool.true_and] at q
          obtain ⟨ts, rfl, sf, ll⟩ := sfs_of r ha
          have h := e2 _ _ h
          have sf := sf.up e2
          generalize List.filterMap id os = l at *
          have lts := Paired.length sf
          rw [List.length_map] at *
          clear r hD hD2 hl2 ly
          repeat fail "st"
          rw [List.length_map]
          refine ⟨by omega, ?_⟩
          intro D2 hDn
          refine lcR (All fun i v _ => v = V.bl (decide (nmOf l i < nmOf l (i + 1)))) (all_mono fun _ _ _ _ _ h => h) hDn (by omega) (fun i hi G e Q1 Q2 q1 q2 => ?_) (fun H3 os3 e3 hl3 hD3 hp3 => ?_)
          · have i0 : i < l.length := by omega
            have i1 : i + 1 < l.length := by omega
            obtain ⟨t0, ht0, hs0⟩ := paired_at2 sf (List.getElem?_eq_getElem i0)
            obtain ⟨t1, ht1, hs1⟩ := paired_at2 sf (List.getElem?_eq_getElem i1)
            have hs0 := e _ _ hs0
            have hs1 := e _ _ hs1
            have hG := e _ _ h
            repeat fail "st"
            show rIx K _ _ _ _
            refine ixT_at (K := K) (j := i) (SqT.of hG) (by omega) (by rw [List.getElem?_map, ht0]; rfl) ?_
            repeat fail "st"
            show rIx K _ _ _ _
            refine ixT_at (K := K) (j := i + 1) (SqT.of hG) (by omega) (by rw [List.getElem?_map, ht1]; rfl) ?_
            repeat fail "st"
            have n0 : nmOf l i = l[i].1.cps.toList := by unfold nmOf; rw [List.getElem?_eq_getElem i0]
            have n1 : nmOf l (i + 1) = l[i + 1].1.cps.toList := by unfold nmOf; rw [List.getElem?_eq_getElem i1]
            refine q1 _ _ (Ex.refl _) ⟨_, rfl, ?_⟩
            show _ = V.bl (decide (nmOf l i < nmOf l (i + 1)))
            rw [n0, n1]
          obtain ⟨ys, ey, ly, hy⟩ := All.end hp3
          rw [ey] at hD3
          have eb : ys = ((List.range (l.length - 1)).map fun i => decide (nmOf l i < nmOf l (i + 1))).map V.bl := by
            refine List.ext_getElem? fun i => ?_
            rw [List.getElem?_map, List.getElem?_map]
            by_cases hi : i < ys.length
            · rw [List.getElem?_eq_getElem hi, hy i _ (List.getElem?_eq_getElem hi), List.getElem?_range (by omega)]
              rfl
            · rw [List.getElem?_eq_none (by omega), List.getElem?_eq_none (by rw [List.length_range]; omega)]
              rfl
          rw [eb] at hD3
          clear hp3 hy ey eb
          repeat fail "st"
          exact q _ (e2.trans e3)
      · rw [show decide (0 < (os.length : Int) ∧ (os.length : Int) ≤ 6) = false from decide_eq_false fun z => h1 (by omega), Bool.false_and] at q
        repeat fail "st"
        exact q _ (Ex.refl _)
end

end K45
namespace K45
open PySem PySem.Spec PyProof.Rows L2 Evl Lw
section
variable {P : Program} {w : World} {K : PySem.W.Frag} {mg : Str → Option Value} {base : Heap}
theorem paired_app {α β : Type} {R : α → β → Prop} : ∀ {as : List α} {bs : List β} {cs : List α} {ds : List β}, Paired R as bs → Paired R cs ds → Paired R (as ++ cs) (bs ++ ds)
  | _, _, _, _, .nil, h => h
  | _, _, _, _, .cons r t, h => .cons r (paired_app t h)
theorem nm_lt {l : List Sfc} (h : ascB l = true) : ∀ {j i : Nat}, i < j → j < l.length → nmOf l i < nmOf l j
  | j + 1, i, hi, hj => by
    have one : nmOf l j < nmOf l (j + 1) := by
      unfold ascB at h
      rw [List.all_map, List.all_eq_true] at h
      exact of_decide_eq_true (h j (List.mem_range.mpr (by omega)))
    rcases Nat.lt_succ_iff_lt_or_eq.mp hi with k | rfl
    · exact List.lt_trans (nm_lt h k (by omega)) one
    · exact one
theorem nm_ne {l : List Sfc} (h : ascB l = true) {i j : Nat} {s t : Sfc} (hs : l[i]? = some s) (ht : l[j]? = some t) (ij : i < j) : s.1 ≠ t.1 := fun e => by
  have k := nm_lt h ij (List.getElem?_eq_some_iff.mp ht).1
  unfold nmOf at k
  rw [hs, ht] at k
  dsimp only at k
  rw [e] at k
  exact List.lt_irrefl _ k
/-- a stage in the heap -/
def StageAt (K : PySem.W.Frag) (H : Hp) (a : Addr) (l : List Sfc) : Prop := ∃ ts : List Addr, H a = some (.tup (ts.map V.ref)) ∧ Sfs H ts l ∧ ascB l = true ∧ l.length ≤ 6
theorem StageAt.up {H H' : Hp} {a : Addr} {l : List Sfc} (e : Ex H H') (h : StageAt K H a l) : StageAt K H' a l := let ⟨ts, h1, h2, h3⟩ := h; ⟨ts, e _ _ h1, h2.up e, h3⟩
theorem stage_some {H : Hp} {v : V} {l : List Sfc} (h : Sg H v (some l)) : ∃ a, v = .ref a ∧ StageAt K H a l := by
  generalize eo : some l = o at h
  cases h with
  | other k h => cases eo
  | @tup a xs os h r hl =>
    unfold stageL at eo
    split at eo
    · rename_i c
      cases eo
      simp only [Bool.and_eq_true, decide_eq_true_eq] at c
      obtain ⟨c1, c2, c3⟩ := c
      obtain ⟨ts, rfl, sf, ll⟩ := sfs_of r c2
      exact ⟨a, rfl, ts, h, sf, c3, by omega⟩
    · cases eo
def spCkSt : Sp := fun vs H Q _ => ∃ v l, vs = [v] ∧ Sg H v (some l) ∧ ∀ H', Ex H H' → Q .non H'
theorem c_check_stage (T : Txt K mg) : Cl P w K mg base CX0 5 "check_stage" s_check_stage ["value"] spCkSt := by
  refine cl_of (k := 4) T.d_check_stage sc_check_stage (fun vs H Q E h => ?_) (fun f cdv A outer s H vs Q E hr h => ?_)
  · obtain ⟨v, l, rfl, _⟩ := h
    rfl
  · obtain ⟨v, l, rfl, sv, q⟩ := h
    have nd := sc_check_stage.nd
    refine ⟨_, (pss_one (ps_if (pt_not (pt_val (Lw.pe_cl (c_is_stage T) b_is_stage hr (by decide) (by rfl) pass0 (pa_cons (pv 0) pa_nil)))) (pss_one Lw.ps_dead) pss_nil)), ?_⟩
    repeat fail "st"
    refine ⟨v, _, rfl, sv, fun H1 e1 => ?_⟩
    repeat fail "st"
    exact q _ e1
end

end K45
namespace K45
open PySem PySem.Spec PyProof.Rows L2 Evl Lw
section
variable {P : Program} {w : World} {K : PySem.W.Frag} {mg : Str → Option Value} {base : Heap}
abbrev Cell := Str × Int × Int
/-- a cell; its name can be compared -/
def CellAt (H : Hp) (a : Addr) (k : Cell) : Prop := H a = some (.tup [.str k.1, .int k.2.1, .int k.2.2]) ∧ PyData.strOk k.1 = true
theorem CellAt.up {H H' : Hp} {a : Addr} {k : Cell} (e : Ex H H') (h : CellAt H a k) : CellAt H' a k := ⟨e _ _ h.1, h.2⟩
theorem tup_but {H H' : Hp} {l t : Addr} {xs ys : List V} (e : But l H H') (hl : H l = some (.lst xs)) (h : H t = some (.tup ys)) : H' t = some (.tup ys) := e _ _ (fun z => by rw [z, hl] at h; cases h) h
theorem CellAt.but {H H' : Hp} {a l : Addr} {k : Cell} {xs : List V} (e : But l H H') (hl : H l = some (.lst xs)) (h : CellAt H a k) : CellAt H' a k := ⟨tup_but e hl h.1, h.2⟩
mutual
/-- a form in the heap -/
inductive FormAt (H : Hp) : V → Fo.Form Cell → Prop
  | col {t : Addr} {c : Int} : H t = some (.tup [.str "colour", .int c]) → FormAt H (.ref t) (.col c)
  | cel {t a : Addr} {k : Cell} : H t = some (.tup [.str "cell", .ref a]) → CellAt H a k → FormAt H (.ref t) (.cel k)
  | ask {t a r : Addr} {v : V} {k : Cell} {ws : List V} {rows : Fo.Rows Cell} {o : Fo.Form Cell} : H t = some (.tup [.str "ask", .ref a, .ref r, v]) → CellAt H a k → Tu H r ws → RowsAt H ws rows → FormAt H v o → FormAt H (.ref t) (.ask k rows o)
inductive RowsAt (H : Hp) : List V → Fo.Rows Cell → Prop
  | nil : RowsAt H [] .nil
  | cons {p : Addr} {v : V} {ws : List V} {c : Int} {f : Fo.Form Cell} {t : Fo.Rows Cell} : H p = some (.tup [.int c, v]) → FormAt H v f → RowsAt H ws t → RowsAt H (.ref p :: ws) (.cons c f t)
end
mutual
theorem FormAt.up {H H' : Hp} (e : Ex H H') : ∀ {v : V} {f : Fo.Form Cell}, FormAt H v f → FormAt H' v f
  | _, _, .col h => .col (e _ _ h)
  | _, _, .cel h k => .cel (e _ _ h) (k.up e)
  | _, _, .ask h k t r o => .ask (e _ _ h) (k.up e) (t.up e) (RowsAt.up e r) (FormAt.up e o)
theorem RowsAt.up {H H' : Hp} (e : Ex H H') : ∀ {ws : List V} {r : Fo.Rows Cell}, RowsAt H ws r → RowsAt H' ws r
  | _, _, .nil => .nil
  | _, _, .cons h f t => .cons (e _ _ h) (FormAt.up e f) (RowsAt.up e t)
end
mutual
theorem FormAt.but {H H' : Hp} {l : Addr} {xs : List V} (e : But l H H') (hl : H l = some (.lst xs)) : ∀ {v : V} {f : Fo.Form Cell}, FormAt H v f → FormAt H' v f
  | _, _, .col h => .col (tup_but e hl h)
  | _, _, .cel h k => .cel (tup_but e hl h) (k.but e hl)
  | _, _, .ask h k t r o => .ask (tup_but e hl h) (k.but e hl) (let ⟨b, x, y⟩ := t; ⟨b, x, e _ _ (fun z => by rw [z, hl] at y; cases y) y⟩) (RowsAt.but e hl r) (FormAt.but e hl o)
theorem RowsAt.but {H H' : Hp} {l : Addr} {xs : List V} (e : But l H H') (hl : H l = some (.lst xs)) : ∀ {ws : List V} {r : Fo.Rows Cell}, RowsAt H ws r → RowsAt H' ws r
  | _, _, .nil => .nil
  | _, _, .cons h f t => .cons (tup_but e hl h) (FormAt.but e hl f) (RowsAt.but e hl t)
end
mutual
theorem FormAt.keep {H H' : Hp} (e1 : ∀ a ys, H a = some (.tup ys) → H' a = some (.tup ys)) (e2 : ∀ a b ys, H a = some (.frz b (.tup ys)) → H' a = some (.frz b (.tup ys))) : ∀ {v : V} {f : Fo.Form Cell}, FormAt H v f → FormAt H' v f
  | _, _, .col h => .col (e1 _ _ h)
  | _, _, .cel h k => .cel (e1 _ _ h) ⟨e1 _ _ k.1, k.2⟩
  | _, _, .ask h k t r o => .ask (e1 _ _ h) ⟨e1 _ _ k.1, k.2⟩ (let ⟨b, x, y⟩ := t; ⟨b, x, e2 _ _ _ y⟩) (RowsAt.keep e1 e2 r) (FormAt.keep e1 e2 o)
theorem RowsAt.keep {H H' : Hp} (e1 : ∀ a ys, H a = some (.tup ys) → H' a = some (.tup ys)) (e2 : ∀ a b ys, H a = some (.frz b (.tup ys)) → H' a = some (.frz b (.tup ys))) : ∀ {ws : List V} {r : Fo.Rows Cell}, RowsAt H ws r → RowsAt H' ws r
  | _, _, .nil => .nil
  | _, _, .cons h f t => .cons (e1 _ _ h) (FormAt.keep e1 e2 f) (RowsAt.keep e1 e2 t)
end
mutual
/-- how deep: an end is 1 -/
def dpF : Fo.Form Cell → Nat
  | .col _ => 1
  | .cel _ => 1
  | .ask _ rows o => 1 + max (dpR rows) (dpF o)
def dpR : Fo.Rows Cell → Nat
  | .nil => 0
  | .cons _ f t => max (dpF f) (dpR t)
end
mutual
/-- how large: all keys that are there, all branches -/
def szF : Fo.Form Cell → Nat
  | .col _ => 1
  | .cel _ => 1
  | .ask _ rows o => 1 + (szR rows + szF o)
def szR : Fo.Rows Cell → Nat
  | .nil => 0
  | .cons _ f t => 1 + (szF f + szR t)
end
theorem dpF_pos : ∀ f : Fo.Form Cell, 1 ≤ dpF f
  | .col _ => Nat.le_refl _
  | .cel _ => Nat.le_refl _
  | .ask _ rows o => by show 1 ≤ 1 + _; omega
mutual
theorem keys_len : ∀ f : Fo.Form Cell, (Fo.keysIn f).length ≤ szF f
  | .col _ => Nat.zero_le _
  | .cel _ => Nat.le_refl _
  | .ask k rows o => by
    show (Fo.keysIn o ++ Fo.keysR rows).length + 1 ≤ 1 + (szR rows + szF o)
    rw [List.length_append]
    have := keys_len o
    have := keysR_len rows
    omega
theorem keysR_len : ∀ r : Fo.Rows Cell, (Fo.keysR r).length ≤ szR r
  | .nil => Nat.le_refl _
  | .cons _ f t => by
    show (Fo.keysIn f ++ Fo.keysR t).length ≤ 1 + (szF f + szR t)
    rw [List.length_append]
    have := keys_len f
    have := keysR_len t
    omega
end
mutual
theorem asked_len : ∀ f : Fo.Form Cell, (Fo.askedIn f).length ≤ szF f
  | .col _ => Nat.zero_le _
  | .cel _ => Nat.zero_le _
  | .ask k rows o => by
    show (Fo.askedIn o ++ Fo.askedR k rows).length ≤ 1 + (szR rows + szF o)
    rw [List.length_append]
    have := asked_len o
    have := askedR_len k rows
    omega
theorem askedR_len (k : Cell) : ∀ r : Fo.Rows Cell, (Fo.askedR k r).length ≤ szR r
  | .nil => Nat.le_refl _
  | .cons _ f t => by
    show (Fo.askedIn f ++ Fo.askedR k t).length + 1 ≤ 1 + (szF f + szR t)
    rw [List.length_append]
    have := asked_len f
    have := askedR_len k t
    omega
end
mutual
theorem rows_len {H : Hp} : ∀ {ws : List V} {r : Fo.Rows Cell}, RowsAt H ws r → ws.length = r.list.length
  | _, _, .nil => rfl
  | _, _, .cons h f t => congrArg Nat.succ (rows_len t)
theorem rows_get {H : Hp} : ∀ {ws : List V} {r : Fo.Rows Cell} {i : Nat} {x : V}, RowsAt H ws r → ws[i]? = some x → ∃ p v c g, x = .ref p ∧ H p = some (.tup [.int c, v]) ∧ FormAt H v g ∧ r.list[i]? = some (c, g)
  | _, _, _, _, .nil, e => by cases e
  | _, _, 0, x, .cons (p := p) (v := v) (c := c) (f := g) h f t, e => ⟨p, v, c, g, (Option.some.inj e).symm, h, f, rfl⟩
  | _, _, i + 1, x, .cons h f t, e => rows_get (i := i) t e
end
theorem dpR_mem : ∀ {r : Fo.Rows Cell} {p : Int × Fo.Form Cell}, p ∈ r.list → dpF p.2 ≤ dpR r
  | .nil, p, m => by cases m
  | .cons c f t, p, m => by
    show dpF p.2 ≤ max (dpF f) (dpR t)
    rcases List.mem_cons.mp m with rfl | m
    · exact Nat.le_max_left _ _
    · exact Nat.le_trans (dpR_mem m) (Nat.le_max_right _ _)
theorem szR_mem : ∀ {r : Fo.Rows Cell} {p : Int × Fo.Form Cell}, p ∈ r.list → szF p.2 ≤ szR r
  | .nil, p, m => by cases m
  | .cons c f t, p, m => by
    show szF p.2 ≤ 1 + (szF f + szR t)
    rcases List.mem_cons.mp m with rfl | m
    · show szF f ≤ _
      omega
    · have := szR_mem m
      omega
theorem list_len : ∀ r : Fo.Rows Cell, r.list.length ≤ szR r
  | .nil => Nat.le_refl _
  | .cons c f t => by
    show t.list.length + 1 ≤ 1 + (szF f + szR t)
    have := list_len t
    omega
/-- a branch that is made -/
def MadeAt (g : Fo.Form Cell → Fo.Form Cell) (rs : List (Int × Fo.Form Cell)) (i : Nat) (y : V) (H : Hp) : Prop := ∃ p v c f, y = V.ref p ∧ rs[i]? = some (c, f) ∧ H p = some (.tup [.int c, v]) ∧ FormAt H v (g f)
theorem MadeAt.ext {g : Fo.Form Cell → Fo.Form Cell} {rs : List (Int × Fo.Form Cell)} (i : Nat) (y : V) (H H' : Hp) (e : ExT H H') (h : MadeAt g rs i y H) : MadeAt g rs i y H' := by
  obtain ⟨p, v, c, f, e1, e2, e3, e4⟩ := h
  exact ⟨p, v, c, f, e1, e2, e p _ (fun xs z => by cases z) e3, e4.keep (fun a ys h => e a _ (fun xs z => by cases z) h) (fun a b ys h => e a _ (fun xs z => by cases z) h)⟩
theorem made_rows {g : Fo.Form Cell → Fo.Form Cell} {H : Hp} : ∀ {ys : List V} {r : Fo.Rows Cell}, ys.length = r.list.length → (∀ i y, ys[i]? = some y → MadeAt g r.list i y H) → RowsAt H ys (.of (r.list.map fun p => (p.1, g p.2)))
  | [], .nil, _, _ => .nil
  | [], .cons _ _ _, h, _ => by cases h
  | _ :: _, .nil, h, _ => by cases h
  | y :: ys, .cons c f t, hl, h => by
    obtain ⟨p, v, c', f', rfl, e, hp, hf⟩ := h 0 y rfl
    obtain ⟨rfl, rfl⟩ := Prod.mk.inj (Option.some.inj e)
    exact .cons hp hf (made_rows (Nat.succ.inj hl) fun i y q => h (i + 1) y q)
theorem genR_of (s : Cell) : ∀ r : Fo.Rows Cell, Fo.Rows.of (r.list.map fun p => (p.1, Fo.general s p.2)) = Fo.generalR s r
  | .nil => rfl
  | .cons c f t => by
    show Fo.Rows.cons c (Fo.general s f) (.of (t.list.map _)) = .cons c (Fo.general s f) (Fo.generalR s t)
    rw [genR_of s t]
theorem putR_of (s : Cell) (d : Int) : ∀ r : Fo.Rows Cell, Fo.Rows.of (r.list.map fun p => (p.1, Fo.put s d p.2)) = Fo.putR s d r
  | .nil => rfl
  | .cons c f t => by
    show Fo.Rows.cons c (Fo.put s d f) (.of (t.list.map _)) = .cons c (Fo.put s d f) (Fo.putR s d t)
    rw [putR_of s d t]
theorem keysR_list : ∀ r : Fo.Rows Cell, Fo.keysR r = r.list.flatMap fun p => Fo.keysIn p.2
  | .nil => rfl
  | .cons c f t => by
    show Fo.keysIn f ++ Fo.keysR t = _
    rw [keysR_list t]
    rfl
theorem askedR_list (k : Cell) : ∀ r : Fo.Rows Cell, Fo.askedR k r = r.list.flatMap fun p => (k, p.1) :: Fo.askedIn p.2
  | .nil => rfl
  | .cons c f t => by
    show (k, c) :: (Fo.askedIn f ++ Fo.askedR k t) = _
    rw [askedR_list k t]
    rfl
theorem fm_take {α β : Type} {g : α → List β} {xs : List α} {i : Nat} {x : α} (h : xs[i]? = some x) : (xs.take (i + 1)).flatMap g = (xs.take i).flatMap g ++ g x := by
  rw [List.take_add_one, h, List.flatMap_append]
  simp
theorem fm_le {α β : Type} {g : α → List β} {xs : List α} (i : Nat) : ((xs.take i).flatMap g).length ≤ (xs.flatMap g).length := by
  have e : xs.flatMap g = (xs.take i).flatMap g ++ (xs.drop i).flatMap g := by rw [← List.flatMap_append, List.take_append_drop]
  rw [e, List.length_append]
  omega
/-- cells in a list -/
def Cells (H : Hp) (as : List Addr) (ks : List Cell) : Prop := Paired (CellAt H) as ks
theorem pr_imp {α β : Type} {R S : α → β → Prop} (h : ∀ a b, R a b → S a b) : ∀ {as : List α} {bs : List β}, Paired R as bs → Paired S as bs
  | _, _, .nil => .nil
  | _, _, .cons r t => .cons (h _ _ r) (pr_imp h t)
theorem pr_app {α β : Type} {R : α → β → Prop} : ∀ {as as' : List α} {bs bs' : List β}, Paired R as bs → Paired R as' bs' → Paired R (as ++ as') (bs ++ bs')
  | _, _, _, _, .nil, q => q
  | _, _, _, _, .cons r t, q => .cons r (pr_app t q)
theorem pr_take {α β : Type} {R : α → β → Prop} : ∀ {as : List α} {bs : List β} (n : Nat), Paired R as bs → Paired R (as.take n) (bs.take n)
  | _, _, 0, _ => by rw [List.take_zero, List.take_zero]; exact .nil
  | _, _, _ + 1, .nil => .nil
  | _, _, n + 1, .cons r t => .cons r (pr_take n t)
theorem pr_drop {α β : Type} {R : α → β → Prop} : ∀ {as : List α} {bs : List β} (n : Nat), Paired R as bs → Paired R (as.drop n) (bs.drop n)
  | _, _, 0, h => h
  | _, _, _ + 1, .nil => .nil
  | _, _, n + 1, .cons r t => pr_drop n t
theorem pr_rev {α β : Type} {R : α → β → Prop} : ∀ {as : List α} {bs : List β}, Paired R as bs → Paired R as.reverse bs.reverse
  | _, _, .nil => .nil
  | _, _, .cons r t => by
    rw [List.reverse_cons, List.reverse_cons]
    exact pr_app (pr_rev t) (.cons r .nil)
theorem pr_sub {α β : Type} {R : α → β → Prop} {B as : List α} (h : B.Sublist as) : ∀ {bs : List β}, Paired R as bs → ∃ S : List β, S.Sublist bs ∧ Paired R B S := by
  induction h with
  | slnil => intro bs p; exact ⟨[], List.nil_sublist _, .nil⟩
  | cons a _ ih =>
    intro bs p
    cases p with
    | cons r t =>
      obtain ⟨S, s, q⟩ := ih t
      exact ⟨S, s.cons _, q⟩
  | cons_cons a _ ih =>
    intro bs p
    cases p with
    | cons r t =>
      obtain ⟨S, s, q⟩ := ih t
      exact ⟨_ :: S, s.cons_cons _, .cons r q⟩
/-- what a filter keeps is a part of the list -/
theorem sift_sub {α : Type} {f : α → V} : ∀ {os : List (Option V)} {xs : List α}, os.length = xs.length → (∀ (i : Nat) (o : Option V), os[i]? = some o → ∃ a, xs[i]? = some a ∧ (o = none ∨ o = some (f a))) → ∃ B : List α, B.Sublist xs ∧ os.filterMap id = B.map f
  | [], [], _, _ => ⟨[], List.nil_sublist _, rfl⟩
  | [], _ :: _, h, _ => nomatch h
  | _ :: _, [], h, _ => nomatch h
  | o :: os, x :: xs, l, h => by
    obtain ⟨B, s, e⟩ := sift_sub (os := os) (xs := xs) (Nat.succ.inj l) fun i o e => h (i + 1) o e
    obtain ⟨a, ea, r⟩ := h 0 o rfl
    obtain rfl : x = a := Option.some.inj ea
    rcases r with rfl | rfl
    · exact ⟨B, s.cons _, e⟩
    · exact ⟨x :: B, s.cons_cons _, by show f x :: os.filterMap id = _; rw [e]; rfl⟩
theorem Cells.up {H H' : Hp} {as : List Addr} {ks : List Cell} (e : Ex H H') (h : Cells H as ks) : Cells H' as ks := pr_imp (fun _ _ h => h.up e) h
theorem Cells.but {H H' : Hp} {l : Addr} {xs : List V} {as : List Addr} {ks : List Cell} (e : But l H H') (hl : H l = some (.lst xs)) (h : Cells H as ks) : Cells H' as ks := pr_imp (fun _ k h => h.but e hl) h
end

end K45
namespace K45
open PySem PySem.Spec PyProof.Rows L2 Evl Lw
section
variable {P : Program} {w : World} {K : PySem.W.Frag} {mg : Str → Option Value} {base : Heap}
def spKeys (n : Nat) : Sp := fun vs H Q _ => ∃ v f, vs = [v] ∧ FormAt H v f ∧ dpF f ≤ n ∧ szF f ≤ 50000 ∧ ∀ l as H', H l = none → Ex H H' → H' l = some (.lst (as.map V.ref)) → Cells H' as (Fo.keysIn f) → Q (.ref l) H'
theorem c_keys_in (T : Txt K mg) : ∀ n : Nat, Cl P w K mg base CX0 n "keys_in" s_keys_in ["form"] (spKeys n)
  | 0 => cl_false T.d_keys_in fun vs H Q E h => by
    obtain ⟨v, f, _, _, h, _⟩ := h
    have := dpF_pos f
    omega
  | n + 1 => by
    have ih_keys_in := c_keys_in T n
    refine cl_of (k := n) T.d_keys_in sc_keys_in (fun vs H Q E h => ?_) (fun f cdv A outer s H vs Q E hr h => ?_)
    · obtain ⟨v, f, rfl, _⟩ := h
      rfl
    · obtain ⟨v, fo, rfl, hf, hd, hs, q⟩ := h
      have nd := sc_keys_in.nd
      refine ⟨_, (pss_cons (ps_if (pt_cmpR op_ne (pe_ix ix_seq (pv 0) pe_int (fun _ _ => rfl)) pe_str (nomark _)) (pss_one (ps_ret (pe_ifExp (pt_cmpR op_eq (pe_ix ix_seq (pv 0) pe_int (fun _ _ => rfl)) pe_str (nomark _)) (pe_lst (pa_cons (pe_ix ix_seq (pv 0) pe_int (fun _ _ => rfl)) pa_nil)) (pe_lst pa_nil)))) pss_nil)
      (pss_cons (ps_asg (pv 0) (pg_tup rfl (pgs_cons (pg_name (i := 1) nd rfl (Or.inl rfl)) (pgs_cons (pg_name (i := 2) nd rfl (Or.inl rfl)) (pgs_cons (pg_name (i := 3) nd rfl (Or.inl rfl)) (pgs_cons (pg_name (i := 4) nd rfl (Or.inl rfl)) pgs_nil))))))
      (pss_cons (ps_set (i := 5) nd rfl (Or.inl rfl) (pe_lst (pa_cons (pv 2) (StX.pa_star (Lw.pe_cl ih_keys_in b_keys_in hr (by omega) (by rfl) pass0 (pa_cons (pv 4) pa_nil)) pa_nil))))
      (pss_cons (ps_for PassesOwn.never rfl (pi_tup (pv 3)) (pg_tup rfl (pgs_cons (pg_name (i := 6) nd rfl (Or.inl rfl)) (pgs_cons (pg_name (i := 7) nd rfl (Or.inl rfl)) pgs_nil))) (pss_one (ps_expr (pe_bm PySem.F.plainAttrs_list PySem.F.slot_list_extend PySem.F.type_list_extend mt_extend (pv 5) (pa_cons (Lw.pe_cl ih_keys_in b_keys_in hr (by omega) (by rfl) pass0 (pa_cons (pv 7) pa_nil)) pa_nil)))))
      (pss_one (ps_ret (pv 5))))))), ?_⟩
      cases hf with
      | col h =>
        repeat fail "st"
        intro l n_l
        generalize hh : upd _ l _ = H_l
        have e_l := newEx hh n_l
        have h_l := newAt hh
        clear hh
        repeat fail "st"
        exact q l [] _ n_l e_l h_l .nil
      | cel h k =>
        repeat fail "st"
        intro l n_l
        generalize hh : upd _ l _ = H_l
        have e_l := newEx hh n_l
        have h_l := newAt hh
        clear hh
        repeat fail "st"
        exact q l [_] _ n_l e_l h_l (.cons (k.up e_l) .nil)
      | ask h k' t r' o' =>
        rename_i tf a r v k ws rows o
        have hdo : dpF o ≤ n := by
          have : 1 + max (dpR rows) (dpF o) ≤ n + 1 := hd
          omega
        have hdr : dpR rows ≤ n := by
          have : 1 + max (dpR rows) (dpF o) ≤ n + 1 := hd
          omega
        have hsz : 1 + (szR rows + szF o) ≤ 50000 := hs
        have hlen : ∀ i, (k :: (Fo.keysIn o ++ ((rows.list.take i).flatMap fun p => Fo.keysIn p.2))).length ≤ 50000 := fun i => by
          have h1 := keys_len o
          have h2 := keysR_len rows
          rw [keysR_list] at h2
          have h3 := fm_le (g := fun p : Int × Fo.Form Cell => Fo.keysIn p.2) (xs := rows.list) i
          rw [List.length_cons, List.length_append]
          omega
        repeat fail "st"
        refine ⟨_, _, rfl, o', hdo, by omega, fun l2 as2 H2 n2 e2 h2 c2 => ?_⟩
        refine ⟨_, _, rfl, .inr (SqL.of h2), ?_⟩
        have l2n : as2.length ≤ 50000 := by
          have := Paired.length c2
          have := keys_len o
          omega
        refine ⟨?_, ?_⟩
        · refine Nat.le_trans (m := 50001) ?_ (Nat.le_trans (Nat.le_of_ble_eq_true rfl) Lw.line_ge)
          simp
          omega
        intro l n_l
        generalize hh : upd _ l _ = H_l
        have e_l := newEx hh n_l
        have h_l := newAt hh
        clear hh
        replace h_l : H_l l = some (.lst ((a :: as2).map V.ref)) := by rw [h_l]; simp
        have hk0 : Cells H_l (a :: as2) (k :: (Fo.keysIn o ++ (rows.list.take 0).flatMap fun p => Fo.keysIn p.2)) := by
          rw [List.take_zero, List.flatMap_nil, List.append_nil]
          exact .cons ((k'.up e2).up e_l) (c2.up e_l)
        have eA := e2.trans e_l
        have nl : H l = none := ex_no e2 n_l
        have t1 := t.up eA
        have r1 := RowsAt.up eA r'
        clear h2 c2 e2 e_l
        repeat fail "st"
        refine for_tup (xs := ws) (fun i σ H' => ∃ y6 y7 as, σ = [some (.ref tf), some (.str "ask"), some (.ref a), some (.ref r), some v, some (.ref l), y6, y7] ∧ H' l = some (.lst (as.map V.ref)) ∧ Cells H' as (k :: (Fo.keysIn o ++ (rows.list.take i).flatMap fun p => Fo.keysIn p.2)) ∧ But l H_l H') ⟨_, _, _, rfl, h_l, hk0, But.refl⟩ ?_ ?_ ?_
        · rintro _ _ _ _ ⟨y6, y7, as, rfl, hl, hk, e⟩
          obtain ⟨ob, x1, x2⟩ := t1
          exact .inl (.inr ⟨ob, e _ _ (fun z => by rw [z, h_l] at x2; cases x2) x2⟩)
        · rintro i x _ H3 hx ⟨y6, y7, as, rfl, hl, hk, e⟩
          obtain ⟨p, u, c, g, rfl, hp, hg, hi⟩ := rows_get (RowsAt.but e h_l r1) hx
          have mg := List.mem_of_getElem? hi
          have d1 : dpF g ≤ dpR rows := dpR_mem mg
          have z1 : szF g ≤ szR rows := szR_mem mg
          repeat fail "st"
          refine ⟨.inl ⟨rfl, _, SqL.of hl⟩, ?_⟩
          repeat fail "st"
          refine ⟨_, _, rfl, hg, Nat.le_trans d1 hdr, Nat.le_trans z1 (by omega), fun l3 as3 H4 n4 e4 h4 c4 => ?_⟩
          have hl4 := e4 _ _ hl
          have ln1 := Paired.length hk
          have ln2 := Paired.length c4
          have lm := hlen (i + 1)
          rw [fm_take hi] at lm
          refine ⟨_, _, _, _, rfl, rfl, hl4, h4, ?_, ?_⟩
          · refine Nat.le_trans (m := 50000) ?_ (Nat.le_trans (Nat.le_of_ble_eq_true rfl) Lw.line_ge)
            simp only [List.length_cons, List.length_append, List.length_map] at lm ln1 ln2 ⊢
            omega
          refine ⟨_, _, as ++ as3, rfl, by rw [upd_same, List.map_append], ?_, (But.up e e4).mut⟩
          rw [fm_take hi, ← List.append_assoc, ← List.cons_append]
          exact Cells.but (mutBut rfl) hl4 (pr_app (hk.up e4) c4)
        · rintro _ H3 ⟨y6, y7, as, rfl, hl, hk, e⟩
          repeat fail "st"
          rw [rows_len r1, List.take_length, ← keysR_list] at hk
          exact q l as H3 nl (But.ex eA nl e) hl hk
end

end K45
namespace K45
open PySem PySem.Spec PyProof.Rows L2 Evl Lw
section
variable {P : Program} {w : World} {K : PySem.W.Frag} {mg : Str → Option Value} {base : Heap}
/-- a pair of a key and a colour -/
def AskAt (H : Hp) (q : Addr) (p : Cell × Int) : Prop := ∃ a, H q = some (.tup [.ref a, .int p.2]) ∧ CellAt H a p.1
def Asks (H : Hp) (qs : List Addr) (ps : List (Cell × Int)) : Prop := Paired (AskAt H) qs ps
theorem Asks.up {H H' : Hp} {as : List Addr} {ks : List (Cell × Int)} (e : Ex H H') (h : Asks H as ks) : Asks H' as ks := pr_imp (fun _ _ ⟨a, h, k⟩ => ⟨a, e _ _ h, k.up e⟩) h
theorem Asks.but {H H' : Hp} {l : Addr} {xs : List V} {as : List Addr} {ks : List (Cell × Int)} (e : But l H H') (hl : H l = some (.lst xs)) (h : Asks H as ks) : Asks H' as ks := pr_imp (fun _ k ⟨a, h, k⟩ => ⟨a, tup_but e hl h, k.but e hl⟩) h
def spAsked (n : Nat) : Sp := fun vs H Q _ => ∃ v f, vs = [v] ∧ FormAt H v f ∧ dpF f ≤ n ∧ szF f ≤ 50000 ∧ ∀ l as H', H l = none → Ex H H' → H' l = some (.lst (as.map V.ref)) → Asks H' as (Fo.askedIn f) → Q (.ref l) H'
set_option maxHeartbeats 4000000 in
theorem c_asked_in (T : Txt K mg) : ∀ n : Nat, Cl P w K mg base CX0 n "asked_in" s_asked_in ["form"] (spAsked n)
  | 0 => cl_false T.d_asked_in fun vs H Q E h => by
    obtain ⟨v, f, _, _, h, _⟩ := h
    have := dpF_pos f
    omega
  | n + 1 => by
    have ih_asked_in := c_asked_in T n
    refine cl_of (k := n) T.d_asked_in sc_asked_in (fun vs H Q E h => ?_) (fun f cdv A outer s H vs Q E hr h => ?_)
    · obtain ⟨v, f, rfl, _⟩ := h
      rfl
    · obtain ⟨v, fo, rfl, hf, hd, hs, q⟩ := h
      have nd := sc_asked_in.nd
      refine ⟨_, (pss_cons (ps_if (pt_cmpR op_ne (pe_ix ix_seq (pv 0) pe_int (fun _ _ => rfl)) pe_str (nomark _)) (pss_one (ps_ret (pe_lst pa_nil))) pss_nil)
      (pss_cons (ps_asg (pv 0) (pg_tup rfl (pgs_cons (pg_name (i := 1) nd rfl (Or.inl rfl)) (pgs_cons (pg_name (i := 2) nd rfl (Or.inl rfl)) (pgs_cons (pg_name (i := 3) nd rfl (Or.inl rfl)) (pgs_cons (pg_name (i := 4) nd rfl (Or.inl rfl)) pgs_nil))))))
      (pss_cons (ps_set (i := 5) nd rfl (Or.inl rfl) (Lw.pe_cl ih_asked_in b_asked_in hr (by omega) (by rfl) pass0 (pa_cons (pv 4) pa_nil)))
      (pss_cons (ps_for PassesOwn.never rfl (pi_tup (pv 3)) (pg_tup rfl (pgs_cons (pg_name (i := 6) nd rfl (Or.inl rfl)) (pgs_cons (pg_name (i := 7) nd rfl (Or.inl rfl)) pgs_nil))) (pss_cons (ps_expr (pe_bm PySem.F.plainAttrs_list PySem.F.slot_list_append PySem.F.type_list_append mt_append (pv 5) (pa_cons (pe_tup (pa_cons (pv 2) (pa_cons (pv 6) pa_nil))) pa_nil)))
      (pss_one (ps_expr (pe_bm PySem.F.plainAttrs_list PySem.F.slot_list_extend PySem.F.type_list_extend mt_extend (pv 5) (pa_cons (Lw.pe_cl ih_asked_in b_asked_in hr (by omega) (by rfl) pass0 (pa_cons (pv 7) pa_nil)) pa_nil))))))
      (pss_one (ps_ret (pv 5))))))), ?_⟩
      cases hf with
      | col h =>
        repeat fail "st"
        intro l n_l
        generalize hh : upd _ l _ = H_l
        have e_l := newEx hh n_l
        have h_l := newAt hh
        clear hh
        repeat fail "st"
        exact q l [] _ n_l e_l h_l .nil
      | cel h k =>
        repeat fail "st"
        intro l n_l
        generalize hh : upd _ l _ = H_l
        have e_l := newEx hh n_l
        have h_l := newAt hh
        clear hh
        repeat fail "st"
        exact q l [] _ n_l e_l h_l .nil
      | ask h k' t r' o' =>
        rename_i tf a r v k ws rows o
        have hdo : dpF o ≤ n := by
          have : 1 + max (dpR rows) (dpF o) ≤ n + 1 := hd
          omega
        have hdr : dpR rows ≤ n := by
          have : 1 + max (dpR rows) (dpF o) ≤ n + 1 := hd
          omega
        have hsz : 1 + (szR rows + szF o) ≤ 50000 := hs
        have hlen : ∀ i, (Fo.askedIn o ++ ((rows.list.take i).flatMap fun p => (k, p.1) :: Fo.askedIn p.2)).length ≤ 50000 := fun i => by
          have h1 := asked_len o
          have h2 := askedR_len k rows
          rw [askedR_list] at h2
          have h3 := fm_le (g := fun p : Int × Fo.Form Cell => (k, p.1) :: Fo.askedIn p.2) (xs := rows.list) i
          rw [List.length_append]
          omega
        repeat fail "st"
        refine ⟨_, _, rfl, o', hdo, by omega, fun l as2 H2 nl eA h_l c2 => ?_⟩
        have hk0 : Asks H2 as2 (Fo.askedIn o ++ (rows.list.take 0).flatMap fun p => (k, p.1) :: Fo.askedIn p.2) := by
          rw [List.take_zero, List.flatMap_nil, List.append_nil]
          exact c2
        have t1 := t.up eA
        have r1 := RowsAt.up eA r'
        have ka : CellAt H2 a k := k'.up eA
        repeat fail "st"
        refine for_tup (xs := ws) (fun i σ H' => ∃ y6 y7 as, σ = [some (.ref tf), some (.str "ask"), some (.ref a), some (.ref r), some v, some (.ref l), y6, y7] ∧ H' l = some (.lst (as.map V.ref)) ∧ Asks H' as (Fo.askedIn o ++ (rows.list.take i).flatMap fun p => (k, p.1) :: Fo.askedIn p.2) ∧ But l H2 H') ⟨_, _, _, rfl, h_l, hk0, But.refl⟩ ?_ ?_ ?_
        · rintro _ _ _ _ ⟨y6, y7, as, rfl, hl, hk, e⟩
          obtain ⟨ob, x1, x2⟩ := t1
          exact .inl (.inr ⟨ob, e _ _ (fun z => by rw [z, h_l] at x2; cases x2) x2⟩)
        · rintro i x _ H3 hx ⟨y6, y7, as, rfl, hl, hk, e⟩
          obtain ⟨p, u, c, g, rfl, hp, hg, hi⟩ := rows_get (RowsAt.but e h_l r1) hx
          have mg := List.mem_of_getElem? hi
          have d1 : dpF g ≤ dpR rows := dpR_mem mg
          have z1 : szF g ≤ szR rows := szR_mem mg
          have ka3 : CellAt H3 a k := ka.but e h_l
          have lm := hlen (i + 1)
          rw [fm_take hi] at lm
          have ln1 := Paired.length hk
          repeat fail "st"
          refine ⟨.inl ⟨rfl, _, SqL.of hl⟩, ?_⟩
          repeat fail "st"
          intro t2 n_t2
          generalize hh : upd _ t2 _ = H_t2
          have e_t2 := newEx hh n_t2
          have h_t2 := newAt hh
          clear hh
          have hl2 := e_t2 _ _ hl
          refine ⟨_, _, _, rfl, rfl, hl2, ?_, ?_⟩
          · refine Nat.lt_of_lt_of_le (m := 50001) ?_ (Nat.le_trans (Nat.le_of_ble_eq_true rfl) Lw.line_ge)
            simp only [List.length_cons, List.length_append, List.length_map] at lm ln1 ⊢
            omega
          generalize hh : upd _ l _ = H4
          have b_l := mutBut hh
          have h_l := newAt hh
          clear hh
          have e4 := (But.up e e_t2).trans b_l
          have hg4 := (hg.up e_t2).but b_l hl2
          have hk4 : Asks H4 (as ++ [t2]) ((Fo.askedIn o ++ (rows.list.take i).flatMap fun p => (k, p.1) :: Fo.askedIn p.2) ++ [(k, c)]) := Asks.but b_l hl2 (pr_app (hk.up e_t2) (.cons ⟨a, h_t2, ka3.up e_t2⟩ .nil))
          replace h_l : H4 l = some (.lst ((as ++ [t2]).map V.ref)) := by rw [h_l, List.map_append]; rfl
          clear b_l e_t2 h_t2 hl2 hg hk e
          repeat fail "st"
          refine ⟨.inl ⟨rfl, _, SqL.of h_l⟩, ?_⟩
          repeat fail "st"
          refine ⟨_, _, rfl, hg4, Nat.le_trans d1 hdr, Nat.le_trans z1 (by omega), fun l3 as3 H5 n5 e5 h5 c5 => ?_⟩
          have hl5 := e5 _ _ h_l
          have ln2 := Paired.length c5
          refine ⟨_, _, _, _, rfl, rfl, hl5, h5, ?_, ?_⟩
          · refine Nat.le_trans (m := 50000) ?_ (Nat.le_trans (Nat.le_of_ble_eq_true rfl) Lw.line_ge)
            simp only [List.length_cons, List.length_append, List.length_map, List.length_nil] at lm ln1 ln2 ⊢
            omega
          refine ⟨_, _, (as ++ [t2]) ++ as3, rfl, by rw [upd_same, List.map_append (l₁ := as ++ [t2])], ?_, (But.up e4 e5).mut⟩
          have hk6 := pr_app (hk4.up e5) c5
          have e6 : ((Fo.askedIn o ++ (rows.list.take i).flatMap fun p => (k, p.1) :: Fo.askedIn p.2) ++ [(k, c)]) ++ Fo.askedIn g = Fo.askedIn o ++ ((rows.list.take i).flatMap (fun p => (k, p.1) :: Fo.askedIn p.2) ++ (k, c) :: Fo.askedIn g) := by
            rw [List.append_assoc, List.append_assoc]
            rfl
          rw [e6] at hk6
          rw [fm_take hi]
          exact Asks.but (mutBut rfl) hl5 hk6
        · rintro _ H3 ⟨y6, y7, as, rfl, hl, hk, e⟩
          repeat fail "st"
          rw [rows_len r1, List.take_length, ← askedR_list] at hk
          exact q l as H3 nl (But.ex eA nl e) hl hk
end

end K45
namespace K45
open PySem PySem.Spec PyProof.Rows L2 Evl Lw
section
variable {P : Program} {w : World} {K : PySem.W.Frag} {mg : Str → Option Value} {base : Heap}
def datC (k : Cell) : PyData := .tuple [.str k.1, .int k.2.1, .int k.2.2]
theorem eqv_cell (k l : Cell) : PyData.eqv (datC k) (datC l) = decide (k = l) := by
  obtain ⟨n, x, y⟩ := k
  obtain ⟨m, u, v⟩ := l
  rw [show PyData.eqv (datC (n, x, y)) (datC (m, u, v)) = (PyData.eqv (.str n) (.str m) && (PyData.eqv (.int x) (.int u) && (PyData.eqv (.int y) (.int v) && true))) from rfl]
  rw [show PyData.eqv (.str n) (.str m) = (n == m) from rfl, show PyData.eqv (.int x) (.int u) = (x == u) from rfl, show PyData.eqv (.int y) (.int v) = (y == v) from rfl]
  rw [Bool.eq_iff_iff]
  simp
theorem shaped_cell {k : Cell} (h : PyData.strOk k.1 = true) : SeqAt.shaped (datC k) = true := by
  unfold SeqAt.shaped
  rw [Bool.and_eq_true]
  refine ⟨?_, by rfl⟩
  simp [datC, PyData.canLay0, PyData.canLayAll0, h]
theorem dp_cell {H : Hp} {a : Addr} {k : Cell} (h : CellAt H a k) : Dp K H (.ref a) (datC k) := .tup (SqT.of h.1) (.cons (.str _) (.cons (.int _) (.cons (.int _) .nil)))
theorem eq_cell {H : Hp} {a b : Addr} {k l : Cell} (ha : CellAt H a k) (hb : CellAt H b l) {Q : VK} (q : Q (.bl (decide (k = l))) H) : rEqD K (.ref a) (.ref b) H Q :=
  ⟨_, _, dp_cell ha, dp_cell hb, shaped_cell ha.2, shaped_cell hb.2, by rw [eqv_cell]; exact q⟩
def spGen (n : Nat) : Sp := fun vs H Q _ => ∃ v f a s, vs = [v, .ref a] ∧ FormAt H v f ∧ CellAt H a s ∧ dpF f ≤ n ∧ szF f ≤ 50000 ∧ ∀ v' H', Ex H H' → FormAt H' v' (Fo.general s f) → Q v' H'
set_option maxHeartbeats 4000000 in
theorem c_general (T : Txt K mg) : ∀ n : Nat, Cl P w K mg base CX0 n "general" s_general ["form", "key"] (spGen n)
  | 0 => cl_false T.d_general fun vs H Q E h => by
    obtain ⟨v, f, _, _, _, _, _, h, _⟩ := h
    have := dpF_pos f
    omega
  | n + 1 => by
    have ih_general := c_general T n
    refine cl_of (k := n) T.d_general sc_general (fun vs H Q E h => ?_) (fun f cdv A outer s H vs Q E hr h => ?_)
    · obtain ⟨v, f, a, s, rfl, _⟩ := h
      rfl
    · obtain ⟨v, fo, as, s, rfl, hf, hk, hd, hs, q⟩ := h
      have nd := sc_general.nd
      refine ⟨_, (pss_cons (ps_if (pt_cmpR op_ne (pe_ix ix_seq (pv 0) pe_int (fun _ _ => rfl)) pe_str (nomark _)) (pss_one (ps_ret (pv 0))) pss_nil)
      (pss_cons (ps_asg (pv 0) (pg_tup rfl (pgs_cons (pg_name (i := 2) nd rfl (Or.inl rfl)) (pgs_cons (pg_name (i := 3) nd rfl (Or.inl rfl)) (pgs_cons (pg_name (i := 4) nd rfl (Or.inl rfl)) (pgs_cons (pg_name (i := 5) nd rfl (Or.inl rfl)) pgs_nil))))))
      (pss_cons (ps_if (pt_cmpR (op_eqD hr.units) (pv 3) (pv 1) (nomark _)) (pss_one (ps_ret (Lw.pe_cl ih_general b_general hr (by omega) (by rfl) pass0 (pa_cons (pv 5) (pa_cons (pv 1) pa_nil))))) pss_nil)
      (pss_one (ps_ret (pe_tup (pa_cons (pv 2) (pa_cons (pv 3) (pa_cons (pe_callTy (Lw.cr_tupF) (by rfl) T.b_tuple bt_tuple (pa_cons (pe_lc (own := [("one", 6), ("inner", 7)]) (g := gTup K 2 (gCons (gName 6) (gCons (gName 7) (gNil)))) (tt := tYes) rfl nd (pi_tup (pv 4)) (L2.blkOk_by (N := N_general) (sc := defScope s_general) (by decide +kernel)) (fun _ _ _ _ _ => (pg_tup rfl (pgs_cons (pg_name (i := 6) nd rfl (Or.inl rfl)) (pgs_cons (pg_name (i := 7) nd rfl (Or.inl rfl)) pgs_nil)))) (fun _ _ _ _ _ => pts_nil) (fun _ _ _ _ _ => (pe_tup (pa_cons (pv 6) (pa_cons (Lw.pe_cl ih_general b_general hr (by omega) (by rfl) pass0 (pa_cons (pv 7) (pa_cons (pv 1) pa_nil))) pa_nil))))) pa_nil)) (pa_cons (Lw.pe_cl ih_general b_general hr (by omega) (by rfl) pass0 (pa_cons (pv 5) (pa_cons (pv 1) pa_nil))) pa_nil)))))))))), ?_⟩
      cases hf with
      | col h =>
        repeat fail "st"
        exact q _ _ (Ex.refl _) (.col h)
      | cel h k =>
        repeat fail "st"
        exact q _ _ (Ex.refl _) (.cel h k)
      | ask h k' t r' o' =>
        rename_i tf a r v k ws rows o
        have hdo : dpF o ≤ n := by
          have : 1 + max (dpR rows) (dpF o) ≤ n + 1 := hd
          omega
        have hdr : dpR rows ≤ n := by
          have : 1 + max (dpR rows) (dpF o) ≤ n + 1 := hd
          omega
        have hsz : 1 + (szR rows + szF o) ≤ 50000 := hs
        repeat fail "st"
        refine eq_cell k' hk ?_
        repeat fail "st"
        refine ifD (fun hb => ?_) (fun hb => ?_)
        · repeat fail "st"
          refine ⟨_, _, _, _, rfl, o', hk, hdo, by omega, fun v' H' e hf' => ?_⟩
          refine q v' H' e ?_
          rw [show Fo.general s (.ask k rows o) = Fo.general s o from by conv => { lhs; unfold Fo.general }; rw [if_pos hb]]
          exact hf'
        · repeat fail "st"
          intro D hD
          have hlw : ws.length ≤ 50000 := by
            rw [rows_len r']
            have := list_len rows
            omega
          refine lcT (All (MadeAt (Fo.general s) rows.list)) (all_mono MadeAt.ext) hD t.sq hlw (fun i x hi H1 e1 Q1 Q2 q1 q2 => ?_) (fun H1 os e1 hl hD1 hp => ?_)
          · obtain ⟨p, u, c, g, rfl, hp, hg, hi'⟩ := rows_get r' hi
            have mg := List.mem_of_getElem? hi'
            have d1 : dpF g ≤ dpR rows := dpR_mem mg
            have z1 : szF g ≤ szR rows := szR_mem mg
            have hp1 := e1 _ _ hp
            have hg1 := hg.up e1
            have hk1 := hk.up e1
            repeat fail "st"
            refine ⟨_, _, _, _, rfl, hg1, hk1, Nat.le_trans d1 hdr, Nat.le_trans z1 (by omega), fun v' H2 e2 hf2 => ?_⟩
            repeat fail "st"
            intro tp n_tp
            generalize hh : upd _ tp _ = H_tp
            have e_tp := newEx hh n_tp
            have h_tp := newAt hh
            clear hh
            exact q1 _ _ (e2.trans e_tp) ⟨_, rfl, tp, v', c, g, rfl, hi', h_tp, hf2.up e_tp⟩
          · obtain ⟨ys, ey, ly, hy⟩ := All.end hp
            rw [ey] at hD1
            rw [hl, rows_len r'] at ly
            have rm := made_rows ly hy
            rw [genR_of] at rm
            refine ⟨D, ys, rfl, SqL.of hD1, fun rl ob n_r hob => ?_⟩
            generalize hh : upd _ rl _ = H_r
            have e_r := newEx hh n_r
            have h_r := newAt hh
            clear hh
            have e3 := e1.trans e_r
            have o3 := o'.up e3
            have hk3 := hk.up e3
            have k3 := k'.up e3
            have rm3 := RowsAt.up e_r rm
            repeat fail "st"
            refine ⟨_, _, _, _, rfl, o3, hk3, hdo, by omega, fun v' H' e hf' => ?_⟩
            repeat fail "st"
            intro fo n_fo
            generalize hh : upd _ fo _ = H_fo
            have e_fo := newEx hh n_fo
            have h_fo := newAt hh
            clear hh
            refine q _ _ (e3.trans (e.trans e_fo)) ?_
            rw [show Fo.general s (.ask k rows o) = .ask k (Fo.generalR s rows) (Fo.general s o) from by conv => { lhs; unfold Fo.general }; rw [if_neg hb]]
            exact .ask h_fo (k3.up (e.trans e_fo)) ⟨ob, hob, e_fo _ _ (e _ _ h_r)⟩ (RowsAt.up (e.trans e_fo) rm3) (hf'.up e_fo)
end

end K45
namespace K45
open PySem PySem.Spec PyProof.Rows L2 Evl Lw
section
variable {P : Program} {w : World} {K : PySem.W.Frag} {mg : Str → Option Value} {base : Heap}
mutual
/-- a value that may be anything: odd ones are lists and dicts -/
inductive VD where
  | non
  | bl (b : Bool)
  | int (i : Int)
  | str (s : Str)
  | tup (ds : VDs)
  | odd (n : String)
inductive VDs where
  | nil
  | cons (d : VD) (ds : VDs)
end
def VDs.list : VDs → List VD
  | .nil => []
  | .cons d ds => d :: ds.list
def TupAt (H : Hp) (t : Addr) (xs : List V) : Prop := H t = some (.tup xs) ∨ ∃ o, H t = some (.frz o (.tup xs))
theorem TupAt.up {H H' : Hp} {t : Addr} {xs : List V} (e : Ex H H') (h : TupAt H t xs) : TupAt H' t xs := h.elim (fun h => .inl (e _ _ h)) fun ⟨o, h⟩ => .inr ⟨o, e _ _ h⟩
theorem TupAt.sq {H : Hp} {t : Addr} {xs : List V} (h : TupAt H t xs) : SqT K H t xs := h.elim SqT.of fun ⟨o, h⟩ => .inl (.inr ⟨o, h⟩)
theorem TupAt.kd {H : Hp} {t : Addr} {xs : List V} (h : TupAt H t xs) : Kd H (.ref t) "tuple" := h.elim Kd.tup fun ⟨o, h⟩ => Kd.fz h
mutual
inductive VAt (H : Hp) : V → VD → Prop
  | non : VAt H .non .non
  | bl (b : Bool) : VAt H (.bl b) (.bl b)
  | int (i : Int) : VAt H (.int i) (.int i)
  | str (s : Str) : VAt H (.str s) (.str s)
  | tup {t : Addr} {xs : List V} {ds : VDs} : TupAt H t xs → VsAt H xs ds → VAt H (.ref t) (.tup ds)
  | odd {v : V} {n : String} : Kd H v n → n = "list" ∨ n = "dict" → VAt H v (.odd n)
inductive VsAt (H : Hp) : List V → VDs → Prop
  | nil : VsAt H [] .nil
  | cons {v : V} {vs : List V} {d : VD} {ds : VDs} : VAt H v d → VsAt H vs ds → VsAt H (v :: vs) (.cons d ds)
end
mutual
theorem VAt.up {H H' : Hp} (e : Ex H H') : ∀ {v : V} {d : VD}, VAt H v d → VAt H' v d
  | _, _, .non => .non
  | _, _, .bl b => .bl b
  | _, _, .int i => .int i
  | _, _, .str s => .str s
  | _, _, .tup h t => .tup (h.up e) (VsAt.up e t)
  | _, _, .odd k h => .odd (Kd.up e k) h
theorem VsAt.up {H H' : Hp} (e : Ex H H') : ∀ {vs : List V} {ds : VDs}, VsAt H vs ds → VsAt H' vs ds
  | _, _, .nil => .nil
  | _, _, .cons h t => .cons (VAt.up e h) (VsAt.up e t)
end
def VD.kind : VD → String
  | .non => "NoneType"
  | .bl _ => "bool"
  | .int _ => "int"
  | .str _ => "str"
  | .tup _ => "tuple"
  | .odd n => n
theorem VAt.kd {H : Hp} {v : V} {d : VD} (h : VAt H v d) : Kd H v d.kind := by
  cases h with
  | non => exact .non
  | bl b => exact .bl b
  | int i => exact .int i
  | str s => exact .str s
  | tup h t => exact h.kd
  | odd k h => exact k
theorem vs_len {H : Hp} : ∀ {vs : List V} {ds : VDs}, VsAt H vs ds → vs.length = ds.list.length
  | _, _, .nil => rfl
  | _, _, .cons _ t => congrArg Nat.succ (vs_len t)
theorem vs_get {H : Hp} : ∀ {vs : List V} {ds : VDs} {i : Nat} {x : V}, VsAt H vs ds → vs[i]? = some x → ∃ d, ds.list[i]? = some d ∧ VAt H x d
  | _, _, _, _, .nil, e => by cases e
  | _, _, 0, x, .cons h t, e => ⟨_, rfl, Option.some.inj e ▸ h⟩
  | _, _, i + 1, x, .cons h t, e => vs_get (i := i) t e
/-- an int between two -/
def inD (lo hi : Int) : VD → Bool
  | .int i => decide (lo ≤ i) && decide (i ≤ hi)
  | _ => false
theorem inB_inD {H : Hp} {v : V} {d : VD} {lo hi : Int} (h : VAt H v d) : inB lo hi v = inD lo hi d := by
  cases h with
  | odd k h =>
    have : inB lo hi _ = false := inB_no k (by rcases h with rfl | rfl <;> decide)
    rw [this]
    rfl
  | _ => rfl
def isCellB (l : List Sfc) : VD → Bool
  | .tup (.cons (.str n) (.cons x (.cons y .nil))) => match l.find? fun s => decide (s.1 = n) with
    | some s => inD 0 (s.2.1 - 1) x && inD 0 (s.2.2 - 1) y
    | none => false
  | _ => false
end

end K45
namespace K45
open PySem PySem.Spec PyProof.Rows L2 Evl Lw
section
variable {P : Program} {w : World} {K : PySem.W.Frag} {mg : Str → Option Value} {base : Heap}
def spIsCell (K : PySem.W.Frag) : Sp := fun vs H Q _ => ∃ a v l d, vs = [.ref a, v] ∧ StageAt K H a l ∧ VAt H v d ∧ Q (.bl (isCellB l d)) H
theorem cell_no {l : List Sfc} {d : VD} (h : d.kind ≠ "tuple") : isCellB l d = false := by
  cases d with
  | tup ds => exact absurd rfl h
  | _ => rfl
theorem cell_len {l : List Sfc} : ∀ {ds : VDs}, ds.list.length ≠ 3 → isCellB l (.tup ds) = false
  | .nil, _ => rfl
  | .cons a .nil, _ => by cases a <;> rfl
  | .cons a (.cons b .nil), _ => by cases a <;> rfl
  | .cons a (.cons b (.cons c .nil)), h => absurd rfl h
  | .cons a (.cons b (.cons c (.cons d e))), _ => by cases a <;> rfl
theorem cell_str {l : List Sfc} {a : VD} {ds : VDs} (h : a.kind ≠ "str") : isCellB l (.tup (.cons a ds)) = false := by
  cases a with
  | str s => exact absurd rfl h
  | _ => rfl
theorem find_at {l : List Sfc} {nm : Str} {s : Sfc} : ∀ {i : Nat}, l[i]? = some s → s.1 = nm → (∀ t ∈ l.take i, t.1 ≠ nm) → l.find? (fun s => decide (s.1 = nm)) = some s := by
  induction l with
  | nil => intro i h; cases h
  | cons x xs ih =>
    intro i h e no
    cases i with
    | zero =>
      obtain rfl := Option.some.inj h
      rw [List.find?_cons, show decide (x.1 = nm) = true from decide_eq_true e]
    | succ i =>
      rw [List.find?_cons, show decide (x.1 = nm) = false from decide_eq_false (no x (by simp))]
      exact ih h e fun t m => no t (by rw [List.take_succ_cons]; exact List.mem_cons_of_mem _ m)
theorem c_is_cell (T : Txt K mg) : Cl P w K mg base CX0 3 "is_cell" s_is_cell ["stage", "value"] (spIsCell K) := by
  refine cl_of (k := 2) T.d_is_cell sc_is_cell (fun vs H Q E h => ?_) (fun f cdv A outer s H vs Q E hr h => ?_)
  · obtain ⟨a, v, l, d, rfl, _⟩ := h
    rfl
  · obtain ⟨a, v, l, d, rfl, hl, hv, q⟩ := h
    have nd := sc_is_cell.nd
    refine ⟨_, (pss_cons (ps_if (PW.pt (pw_or (pt_not (pt_val (pe_callB (call_isi) (by rfl) T.b_isinstance bt_isinstance (pa_cons (pv 1) (pa_cons (pe_bltn (v := .ty "tuple") (by rfl) T.b_tuple bt_tuple rfl) pa_nil))))) (pw_or (pt_cmpR op_ne (pe_callB (call_len) (by rfl) T.b_len bt_len (pa_cons (pv 1) pa_nil)) pe_int (nomark _)) (pw_or1 (pt_not (pt_val (pe_callB (call_isi) (by rfl) T.b_isinstance bt_isinstance (pa_cons (pe_ix ix_seq (pv 1) pe_int (fun _ _ => rfl)) (pa_cons (pe_bltn (v := .ty "str") (by rfl) T.b_str bt_str rfl) pa_nil))))))))) (pss_one (ps_ret pe_bl)) pss_nil)
      (pss_cons (ps_for PassesOwn.never rfl (pi_tup (pv 0)) (pg_tup rfl (pgs_cons (pg_name (i := 2) nd rfl (Or.inl rfl)) (pgs_cons (pg_name (i := 3) nd rfl (Or.inl rfl)) (pgs_cons (pg_name (i := 4) nd rfl (Or.inl rfl)) pgs_nil)))) (pss_one (ps_if (pt_cmpR op_eq (pv 2) (pe_ix ix_seq (pv 1) pe_int (fun _ _ => rfl)) (nomark _)) (pss_one (ps_ret (pe_and (Lw.pe_cl (c_is_between T) b_is_between hr (by decide) (by rfl) pass0 (pa_cons (pe_ix ix_seq (pv 1) pe_int (fun _ _ => rfl)) (pa_cons pe_int (pa_cons (pe_op op_sub (pv 3) pe_int) pa_nil)))) (pe_one (Lw.pe_cl (c_is_between T) b_is_between hr (by decide) (by rfl) pass0 (pa_cons (pe_ix ix_seq (pv 1) pe_int (fun _ _ => rfl)) (pa_cons pe_int (pa_cons (pe_op op_sub (pv 4) pe_int) pa_nil)))))))) pss_nil)))
      (pss_one (ps_ret pe_bl)))), ?_⟩
    by_cases ht : d.kind = "tuple"
    · cases hv with
      | tup h vs =>
        rename_i tv xs ds
        have hsq : SqT K H tv xs := h.sq
        have kv : Kd H (.ref tv) "tuple" := h.kd
        repeat fail "st"
        refine ifN (fun hl3 => ?_) (fun hl3 => ?_)
        · repeat fail "st"
          rw [cell_len (fun z => hl3 (lenN.mpr (by rw [vs_len vs]; exact z)))] at q
          exact q
        · obtain ⟨x, y, z, rfl⟩ := three (lenN.mp hl3)
          cases vs with
          | cons hx vs => cases vs with
            | cons hy vs => cases vs with
              | cons hz vs =>
                cases vs
                rename_i dx dy dz
                by_cases hs : dx.kind = "str"
                · cases hx with
                  | str nm =>
                    obtain ⟨ts, ha, hts, asc, l6⟩ := hl
                    have kx : Kd H (V.str nm) "str" := .str _
                    repeat fail "st"
                    refine for_tup (xs := ts.map V.ref) (fun i σ H' => ∃ y2 y3 y4, σ = [some (.ref a), some (.ref tv), y2, y3, y4] ∧ H' = H ∧ ∀ s ∈ l.take i, s.1 ≠ nm) ⟨_, _, _, rfl, rfl, fun s m => by simp at m⟩ ?_ ?_ ?_
                    · rintro _ _ _ _ ⟨y2, y3, y4, rfl, rfl, _⟩
                      exact SqT.of ha
                    · rintro i x _ _ hx ⟨y2, y3, y4, rfl, rfl, no⟩
                      rw [List.getElem?_map] at hx
                      obtain ⟨t, ht1, rfl⟩ := Option.map_eq_some_iff.mp hx
                      obtain ⟨s, hs1, hs2⟩ := paired_at hts ht1
                      have ky := hy.kd
                      have kz := hz.kd
                      repeat fail "st"
                      refine ifD (fun hb => ?_) (fun hb => ?_)
                      · have fs := find_at hs1 (V.str.inj hb) no
                        have eq : isCellB l (.tup (.cons (.str nm) (.cons dy (.cons dz .nil)))) = (inD 0 (s.2.1 - 1) dy && inD 0 (s.2.2 - 1) dz) := by
                          show (match l.find? fun s => decide (s.1 = nm) with
                            | some s => inD 0 (s.2.1 - 1) dy && inD 0 (s.2.2 - 1) dz
                            | none => false) = _
                          rw [fs]
                        rw [eq, ← inB_inD hy, ← inB_inD hz] at q
                        repeat fail "st"
                        refine ifB (fun h1 => ?_) (fun h1 => ?_)
                        · rw [h1] at q
                          repeat fail "st"
                          exact q
                        · rw [h1] at q
                          exact q
                      · refine ⟨_, _, _, rfl, rfl, fun t m => ?_⟩
                        rw [List.take_add_one, hs1] at m
                        rcases List.mem_append.mp m with m | m
                        · exact no t m
                        · obtain rfl : t = s := by simpa using m
                          exact fun z => hb (congrArg V.str z)
                    · rintro _ _ ⟨y2, y3, y4, rfl, rfl, no⟩
                      rw [List.length_map, Paired.length hts, List.take_length] at no
                      have eq : isCellB l (.tup (.cons (.str nm) (.cons dy (.cons dz .nil)))) = false := by
                        show (match l.find? fun s => decide (s.1 = nm) with
                          | some s => inD 0 (s.2.1 - 1) dy && inD 0 (s.2.2 - 1) dz
                          | none => false) = _
                        rw [List.find?_eq_none.mpr fun s m => by simpa using no s m]
                      rw [eq] at q
                      repeat fail "st"
                      exact q
                  | odd k h => rcases h with rfl | rfl <;> exact absurd hs (by decide)
                  | tup h t => exact absurd (show "tuple" = "str" from hs) (by decide)
                  | non => exact absurd hs (by decide)
                  | bl b => exact absurd (show "bool" = "str" from hs) (by decide)
                  | int b => exact absurd (show "int" = "str" from hs) (by decide)
                · have kx := hx.kd
                  repeat fail "st"
                  refine ifNt (fun hb => ?_) (fun hb => ?_)
                  · repeat fail "st"
                    rw [cell_str hs] at q
                    exact q
                  · rw [isK_ne hs (by decide)] at hb
                    cases hb
      | odd k h =>
        rcases h with rfl | rfl <;> exact absurd ht (by decide)
      | non => exact absurd ht (by decide)
      | bl b => exact absurd (show "bool" = "tuple" from ht) (by decide)
      | int b => exact absurd (show "int" = "tuple" from ht) (by decide)
      | str b => exact absurd (show "str" = "tuple" from ht) (by decide)
    · have kv := hv.kd
      repeat fail "st"
      refine ifB (fun h => ?_) (fun h => ?_)
      · repeat fail "st"
        rw [cell_no ht] at q
        exact q
      · rw [isK_ne ht (by decide)] at h
        cases h
end

end K45
namespace K45
open PySem PySem.Spec PyProof.Rows L2 Evl Lw
section
variable {P : Program} {w : World} {K : PySem.W.Frag} {mg : Str → Option Value} {base : Heap}
/-- colours of pairs, in their turn -/
def colV : VD → Option Int
  | .tup (.cons (.int c) (.cons _ .nil)) => if 0 ≤ c ∧ c ≤ 1000000000 then some c else none
  | _ => none
def ascI : List Int → Bool
  | a :: b :: t => decide (a < b) && ascI (b :: t)
  | _ => true
mutual
/-- whether a value is a form -/
def isF (l : List Sfc) : VD → Bool
  | .tup (.cons (.str n) ds) => if n = "colour" then (match ds with | .cons d .nil => inD 0 1000000000 d | _ => false)
    else if n = "cell" then (match ds with | .cons d .nil => isCellB l d | _ => false)
    else if n = "ask" then (match ds with
      | .cons d (.cons r (.cons o .nil)) => isCellB l d && (isBr l r && isF l o)
      | _ => false)
    else false
  | _ => false
/-- whether it is a tuple of branches -/
def isBr (l : List Sfc) : VD → Bool
  | .tup ds => (match ds with | .nil => false | _ => true) && (ds.list.all (fun d => (colV d).isSome) && (ascI (ds.list.filterMap colV) && isBs l ds))
  | _ => false
def isBs (l : List Sfc) : VDs → Bool
  | .nil => true
  | .cons (.tup (.cons _ (.cons f .nil))) t => isF l f && isBs l t
  | .cons _ _ => false
end
mutual
def dpV : VD → Nat
  | .tup ds => 1 + dpVs ds
  | _ => 1
def dpVs : VDs → Nat
  | .nil => 0
  | .cons d ds => max (dpV d) (dpVs ds)
end
theorem dpV_pos (d : VD) : 1 ≤ dpV d := by
  cases d with
  | tup ds => show 1 ≤ 1 + _; omega
  | _ => exact Nat.le_refl _
theorem dpVs_mem : ∀ {ds : VDs} {d : VD}, d ∈ ds.list → dpV d ≤ dpVs ds
  | .nil, d, m => by cases m
  | .cons e t, d, m => by
    show dpV d ≤ max (dpV e) (dpVs t)
    rcases List.mem_cons.mp m with rfl | m
    · exact Nat.le_max_left _ _
    · exact Nat.le_trans (dpVs_mem m) (Nat.le_max_right _ _)
mutual
/-- how wide -/
def wdV : VD → Nat
  | .tup ds => max ds.list.length (wdVs ds)
  | _ => 0
def wdVs : VDs → Nat
  | .nil => 0
  | .cons d ds => max (wdV d) (wdVs ds)
end
theorem wdVs_mem : ∀ {ds : VDs} {d : VD}, d ∈ ds.list → wdV d ≤ wdVs ds
  | .nil, d, m => by cases m
  | .cons e t, d, m => by
    show wdV d ≤ max (wdV e) (wdVs t)
    rcases List.mem_cons.mp m with rfl | m
    · exact Nat.le_max_left _ _
    · exact Nat.le_trans (wdVs_mem m) (Nat.le_max_right _ _)
def spHas (K : PySem.W.Frag) (n : Nat) : Sp := fun vs H Q _ => ∃ a v l d, vs = [.ref a, v] ∧ StageAt K H a l ∧ VAt H v d ∧ dpV d ≤ n ∧ wdV d ≤ 50000 ∧ ∀ H', Ex H H' → Q (.bl (isF l d)) H'
def spBra (K : PySem.W.Frag) (n : Nat) : Sp := fun vs H Q _ => ∃ a v l d, vs = [.ref a, v] ∧ StageAt K H a l ∧ VAt H v d ∧ dpV d ≤ n ∧ wdV d ≤ 50000 ∧ ∀ H', Ex H H' → Q (.bl (isBr l d)) H'
def spColour : Sp := fun vs H Q _ => ∃ v n, vs = [v] ∧ Kd H v n ∧ Q (.bl (Lw.inB 0 1000000000 v)) H
theorem c_is_colour (T : Txt K mg) : Cl P w K mg base CX0 3 "is_colour" s_is_colour ["value"] spColour := by
  refine cl_of (k := 2) T.d_is_colour sc_is_colour (fun vs H Q E h => ?_) (fun f cdv A outer s H vs Q E hr h => ?_)
  · obtain ⟨v, n, rfl, _⟩ := h
    rfl
  · obtain ⟨v, n, rfl, k, q⟩ := h
    have nd := sc_is_colour.nd
    refine ⟨_, (pss_one (ps_ret (Lw.pe_cl (c_is_between T) b_is_between hr (by decide) (by rfl) pass0 (pa_cons (pv 0) (pa_cons pe_int (pa_cons (C8.pe_gc (by rfl) T.g_MOST_COLOUR) pa_nil)))))), ?_⟩
    repeat fail "st"
    exact q
end

end K45
namespace K45
open PySem PySem.Spec PyProof.Rows L2 Evl Lw
section
variable {P : Program} {w : World} {K : PySem.W.Frag} {mg : Str → Option Value} {base : Heap}
theorem isF_str {l : List Sfc} {a : VD} {ds : VDs} (h : a.kind ≠ "str") : isF l (.tup (.cons a ds)) = false := by
  cases a with
  | str s => exact absurd rfl h
  | _ => rfl
theorem isF_no {l : List Sfc} {d : VD} (h : d.kind ≠ "tuple") : isF l d = false := by
  cases d with
  | tup s => exact absurd rfl h
  | _ => rfl
def oneV (p : VD → Bool) : VDs → Bool
  | .cons d .nil => p d
  | _ => false
def askV (l : List Sfc) : VDs → Bool
  | .cons d (.cons r (.cons o .nil)) => isCellB l d && (isBr l r && isF l o)
  | _ => false
theorem isF_eq {l : List Sfc} {n : Str} {ds : VDs} : isF l (.tup (.cons (.str n) ds)) = if n = "colour" then oneV (inD 0 1000000000) ds else if n = "cell" then oneV (isCellB l) ds else if n = "ask" then askV l ds else false := by
  match ds with
  | .nil => rfl
  | .cons d .nil => rfl
  | .cons d (.cons r .nil) => rfl
  | .cons d (.cons r (.cons o .nil)) => rfl
  | .cons d (.cons r (.cons o (.cons z t))) => rfl
theorem oneV_len {p : VD → Bool} {ds : VDs} (h : ds.list.length ≠ 1) : oneV p ds = false := by
  match ds, h with
  | .nil, _ => rfl
  | .cons d .nil, h => exact absurd rfl h
  | .cons d (.cons r t), _ => rfl
theorem askV_len {l : List Sfc} {ds : VDs} (h : ds.list.length ≠ 3) : askV l ds = false := by
  match ds, h with
  | .nil, _ => rfl
  | .cons d .nil, _ => rfl
  | .cons d (.cons r .nil), _ => rfl
  | .cons d (.cons r (.cons o .nil)), h => exact absurd rfl h
  | .cons d (.cons r (.cons o (.cons z t))), _ => rfl
theorem st_has_form (T : Txt K mg) (n : Nat) (ih_has_form : Cl P w K mg base CX0 (n + 5) "has_form" s_has_form ["stage", "value"] (spHas K n)) (ih_are_branches : Cl P w K mg base CX0 (n + 5) "are_branches" s_are_branches ["stage", "value"] (spBra K n)) : Cl P w K mg base CX0 (n + 6) "has_form" s_has_form ["stage", "value"] (spHas K (n + 1)) := by
  refine cl_of (k := n + 5) T.d_has_form sc_has_form (fun vs H Q E h => ?_) (fun f cdv A outer s H vs Q E hr h => ?_)
  · obtain ⟨a, v, l, d, rfl, _⟩ := h
    rfl
  · obtain ⟨a, v, l, d, rfl, hl, hv, hd, hw, q⟩ := h
    have nd := sc_has_form.nd
    refine ⟨_, (pss_cons (ps_if (PW.pt (pw_or (pt_not (pt_val (pe_callB (call_isi) (by rfl) T.b_isinstance bt_isinstance (pa_cons (pv 1) (pa_cons (pe_bltn (v := .ty "tuple") (by rfl) T.b_tuple bt_tuple rfl) pa_nil))))) (pw_or (pt_cmpR op_eq (pe_callB (call_len) (by rfl) T.b_len bt_len (pa_cons (pv 1) pa_nil)) pe_int (nomark _)) (pw_or1 (pt_not (pt_val (pe_callB (call_isi) (by rfl) T.b_isinstance bt_isinstance (pa_cons (pe_ix ix_seq (pv 1) pe_int (fun _ _ => rfl)) (pa_cons (pe_bltn (v := .ty "str") (by rfl) T.b_str bt_str rfl) pa_nil))))))))) (pss_one (ps_ret pe_bl)) pss_nil)
      (pss_cons (ps_if (pt_cmpR op_eq (pe_ix ix_seq (pv 1) pe_int (fun _ _ => rfl)) pe_str (nomark _)) (pss_one (ps_ret (pe_and (pe_cmpR op_eq (pe_callB (call_len) (by rfl) T.b_len bt_len (pa_cons (pv 1) pa_nil)) pe_int (nomark _)) (pe_one (Lw.pe_cl (c_is_colour T) b_is_colour hr (by omega) (by rfl) pass0 (pa_cons (pe_ix ix_seq (pv 1) pe_int (fun _ _ => rfl)) pa_nil)))))) pss_nil)
      (pss_cons (ps_if (pt_cmpR op_eq (pe_ix ix_seq (pv 1) pe_int (fun _ _ => rfl)) pe_str (nomark _)) (pss_one (ps_ret (pe_and (pe_cmpR op_eq (pe_callB (call_len) (by rfl) T.b_len bt_len (pa_cons (pv 1) pa_nil)) pe_int (nomark _)) (pe_one (Lw.pe_cl (c_is_cell T) b_is_cell hr (by omega) (by rfl) pass0 (pa_cons (pv 0) (pa_cons (pe_ix ix_seq (pv 1) pe_int (fun _ _ => rfl)) pa_nil))))))) pss_nil)
      (pss_cons (ps_if (PW.pt (pw_or (pt_cmpR op_ne (pe_ix ix_seq (pv 1) pe_int (fun _ _ => rfl)) pe_str (nomark _)) (pw_or (pt_cmpR op_ne (pe_callB (call_len) (by rfl) T.b_len bt_len (pa_cons (pv 1) pa_nil)) pe_int (nomark _)) (pw_or1 (pt_not (pt_val (Lw.pe_cl (c_is_cell T) b_is_cell hr (by omega) (by rfl) pass0 (pa_cons (pv 0) (pa_cons (pe_ix ix_seq (pv 1) pe_int (fun _ _ => rfl)) pa_nil))))))))) (pss_one (ps_ret pe_bl)) pss_nil)
      (pss_one (ps_ret (pe_and (Lw.pe_cl ih_are_branches b_are_branches hr (by omega) (by rfl) pass0 (pa_cons (pv 0) (pa_cons (pe_ix ix_seq (pv 1) pe_int (fun _ _ => rfl)) pa_nil))) (pe_one (Lw.pe_cl ih_has_form b_has_form hr (by omega) (by rfl) pass0 (pa_cons (pv 0) (pa_cons (pe_ix ix_seq (pv 1) pe_int (fun _ _ => rfl)) pa_nil))))))))))), ?_⟩
    by_cases ht : d.kind = "tuple"
    · cases hv with
      | tup h vs =>
        rename_i tv xs ds
        have hsq : SqT K H tv xs := h.sq
        have kv : Kd H (.ref tv) "tuple" := h.kd
        repeat fail "st"
        cases vs with
        | nil =>
          repeat fail "st"
          refine ifD (fun h0 => ?_) (fun h0 => absurd rfl h0)
          repeat fail "st"
          exact q H (Ex.refl _)
        | cons hx vs =>
          rename_i x xs dx ds
          refine ifD (fun h0 => ?_) (fun _ => ?_)
          · have := lenN.mp h0
            rw [List.length_cons] at this
            cases this
          have kx := hx.kd
          have lxs := vs_len vs
          have hat : atI (x :: xs) 0 = some x := atI_nat (show (x :: xs)[0]? = some x from rfl)
          repeat fail "st"
          by_cases hs : dx.kind = "str"
          · cases hx with
            | str nm =>
              rw [isF_eq] at q
              repeat fail "st"
              refine ifD (fun h1 => ?_) (fun h1 => ?_)
              · rw [if_pos (V.str.inj h1)] at q
                repeat fail "st"
                refine ifD (fun h2 => ?_) (fun h2 => ?_)
                · have l2 := lenN (m := 2).mp h2
                  rw [List.length_cons] at l2
                  match xs, ds, vs, l2 with
                  | _, _, .cons (v := y) (d := dy) hy .nil, _ =>
                    have ky := hy.kd
                    repeat fail "st"
                    rw [inB_inD hy]
                    exact q H (Ex.refl _)
                · rw [oneV_len (fun z => h2 (lenN (m := 2).mpr (by rw [List.length_cons]; omega)))] at q
                  exact q H (Ex.refl _)
              rw [if_neg (fun z => h1 (congrArg V.str z))] at q
              repeat fail "st"
              refine ifD (fun h1 => ?_) (fun h1 => ?_)
              · rw [if_pos (V.str.inj h1)] at q
                repeat fail "st"
                refine ifD (fun h2 => ?_) (fun h2 => ?_)
                · have l2 := lenN (m := 2).mp h2
                  rw [List.length_cons] at l2
                  match xs, ds, vs, l2 with
                  | _, _, .cons (v := y) (d := dy) hy .nil, _ =>
                    repeat fail "st"
                    exact ⟨a, y, l, dy, rfl, hl, hy, q H (Ex.refl _)⟩
                · rw [oneV_len (fun z => h2 (lenN (m := 2).mpr (by rw [List.length_cons]; omega)))] at q
                  exact q H (Ex.refl _)
              rw [if_neg (fun z => h1 (congrArg V.str z))] at q
              repeat fail "st"
              refine ifN (fun h1 => ?_) (fun h1 => ?_)
              · rw [if_neg (fun z => h1 (congrArg V.str z))] at q
                repeat fail "st"
                exact q H (Ex.refl _)
              rw [if_pos (V.str.inj h1)] at q
              repeat fail "st"
              refine ifN (fun h2 => ?_) (fun h2 => ?_)
              · rw [askV_len (fun z => h2 (lenN (m := 4).mpr (by rw [List.length_cons]; omega)))] at q
                repeat fail "st"
                exact q H (Ex.refl _)
              have l2 := lenN (m := 4).mp h2
              rw [List.length_cons] at l2
              match xs, ds, vs, l2 with
              | _, _, .cons (v := y) (d := dy) hy (.cons (v := z) (d := dz) hz (.cons (v := u) (d := du) hu .nil)), _ =>
                replace q : ∀ H', Ex H H' → Q (.bl (isCellB l dy && (isBr l dz && isF l du))) H' := q
                have d1 : dpV dz ≤ n ∧ dpV du ≤ n := by
                  have : 1 + max (dpV (.str nm)) (max (dpV dy) (max (dpV dz) (max (dpV du) 0))) ≤ n + 1 := hd
                  omega
                have w1 : wdV dz ≤ 50000 ∧ wdV du ≤ 50000 := by
                  have : max 4 (max (wdV (.str nm)) (max (wdV dy) (max (wdV dz) (max (wdV du) 0)))) ≤ 50000 := hw
                  omega
                repeat fail "st"
                refine ⟨a, y, l, dy, rfl, hl, hy, ?_⟩
                repeat fail "st"
                refine ifNt (fun h3 => ?_) (fun h3 => ?_)
                · rw [h3] at q
                  repeat fail "st"
                  exact q H (Ex.refl _)
                rw [h3] at q
                repeat fail "st"
                refine ⟨a, z, l, dz, rfl, hl, hz, d1.1, w1.1, fun H1 e1 => ?_⟩
                have hsq := ex_t e1 hsq
                have hl1 := hl.up e1
                have hu1 := VAt.up e1 hu
                repeat fail "st"
                refine ifB (fun h4 => ?_) (fun h4 => ?_)
                · rw [h4] at q
                  repeat fail "st"
                  exact ⟨a, u, l, du, rfl, hl1, hu1, d1.2, w1.2, fun H2 e2 => q H2 (e1.trans e2)⟩
                · rw [h4] at q
                  exact q H1 e1
            | odd k h => rcases h with rfl | rfl <;> exact absurd hs (by decide)
            | tup h t => exact absurd (show "tuple" = "str" from hs) (by decide)
            | non => exact absurd hs (by decide)
            | bl b => exact absurd (show "bool" = "str" from hs) (by decide)
            | int b => exact absurd (show "int" = "str" from hs) (by decide)
          · refine ifNt (fun hb => ?_) (fun hb => ?_)
            · rw [isF_str hs] at q
              repeat fail "st"
              exact q H (Ex.refl _)
            · rw [isK_ne hs (by decide)] at hb
              cases hb
      | odd k h =>
        rcases h with rfl | rfl <;> exact absurd ht (by decide)
      | non => exact absurd ht (by decide)
      | bl b => exact absurd (show "bool" = "tuple" from ht) (by decide)
      | int b => exact absurd (show "int" = "tuple" from ht) (by decide)
      | str b => exact absurd (show "str" = "tuple" from ht) (by decide)
    · have kv := hv.kd
      rw [isF_no ht] at q
      repeat fail "st"
      refine ifB (fun h => ?_) (fun h => ?_)
      · repeat fail "st"
        exact q H (Ex.refl _)
      · rw [isK_ne ht (by decide)] at h
        cases h
end

end K45
namespace K45
open PySem PySem.Spec PyProof.Rows L2 Evl Lw
section
variable {P : Program} {w : World} {K : PySem.W.Frag} {mg : Str → Option Value} {base : Heap}
theorem colV_two {a b : VD} : (colV (.tup (.cons a (.cons b .nil)))).isSome = inD 0 1000000000 a := by
  cases a with
  | int c =>
    show (if 0 ≤ c ∧ c ≤ 1000000000 then some c else none).isSome = (decide (0 ≤ c) && decide (c ≤ 1000000000))
    by_cases h : 0 ≤ c ∧ c ≤ 1000000000
    · rw [if_pos h, decide_eq_true h.1, decide_eq_true h.2]
      rfl
    · rw [if_neg h]
      rcases Classical.not_and_iff_not_or_not.mp h with h | h
      · rw [decide_eq_false h]
        rfl
      · rw [decide_eq_false h, Bool.and_false]
        rfl
  | _ => rfl
theorem colV_len {ds : VDs} (h : ds.list.length ≠ 2) : colV (.tup ds) = none := by
  match ds, h with
  | .nil, _ => rfl
  | .cons d .nil, _ => cases d <;> rfl
  | .cons d (.cons r .nil), h => exact absurd rfl h
  | .cons d (.cons r (.cons o t)), _ => cases d <;> rfl
theorem vs_two {H : Hp} {vs : List V} {ds : VDs} (h : VsAt H vs ds) (l : vs.length = 2) : ∃ y z dy dz, vs = [y, z] ∧ ds = .cons dy (.cons dz .nil) ∧ VAt H y dy ∧ VAt H z dz := by
  match vs, ds, h, l with
  | _, _, .cons (v := y) (d := dy) hy (.cons (v := z) (d := dz) hz .nil), _ => exact ⟨y, z, dy, dz, rfl, rfl, hy, hz⟩
def rowV (p : Int × VD) : VD := .tup (.cons (.int p.1) (.cons p.2 .nil))
theorem colV_some {d : VD} (h : (colV d).isSome = true) : ∃ p, d = rowV p ∧ colV d = some p.1 ∧ 0 ≤ p.1 ∧ p.1 ≤ 1000000000 := by
  match d, h with
  | .tup (.cons (.int c) (.cons g .nil)), h =>
    replace h : (if 0 ≤ c ∧ c ≤ 1000000000 then some c else none).isSome = true := h
    by_cases hc : 0 ≤ c ∧ c ≤ 1000000000
    · exact ⟨(c, g), rfl, (if_pos hc : (if 0 ≤ c ∧ c ≤ 1000000000 then some c else none) = some c), hc⟩
    · rw [if_neg hc] at h
      cases h
theorem rows_all : ∀ {ds : VDs}, (ds.list.map fun d => (colV d).isSome).all id = true → ∃ rows : List (Int × VD), ds.list = rows.map rowV ∧ ds.list.filterMap colV = rows.map (·.1) ∧ ∀ p ∈ rows, 0 ≤ p.1 ∧ p.1 ≤ 1000000000
  | .nil, _ => ⟨[], rfl, rfl, fun p m => by cases m⟩
  | .cons d t, h => by
    replace h : ((colV d).isSome && (t.list.map fun d => (colV d).isSome).all id) = true := h
    rw [Bool.and_eq_true] at h
    obtain ⟨p, e, c, g⟩ := colV_some h.1
    obtain ⟨rows, e1, e2, e3⟩ := rows_all h.2
    refine ⟨p :: rows, by show d :: t.list = _; rw [e, e1]; rfl, ?_, fun q m => ?_⟩
    · show (d :: t.list).filterMap colV = _
      rw [List.filterMap_cons_some c, e2]
      rfl
    · rcases List.mem_cons.mp m with rfl | m
      · exact g
      · exact e3 q m
theorem isBs_rows {l : List Sfc} : ∀ {ds : VDs} {rows : List (Int × VD)}, ds.list = rows.map rowV → isBs l ds = (rows.map fun p => isF l p.2).all id
  | .nil, [], _ => rfl
  | .nil, _ :: _, h => by cases h
  | .cons _ _, [], h => by cases h
  | .cons d t, p :: rows, h => by
    obtain ⟨e1, e2⟩ := List.cons.inj (show d :: t.list = rowV p :: rows.map rowV from h)
    subst e1
    show (isF l p.2 && isBs l t) = (isF l p.2 && (rows.map fun p => isF l p.2).all id)
    rw [isBs_rows e2]
theorem ascI_zip : ∀ as : List Int, ascI as = ((as.zip as.tail).map fun p => decide (p.1 < p.2)).all id
  | [] => rfl
  | [_] => rfl
  | a :: b :: t => by
    show (decide (a < b) && ascI (b :: t)) = (decide (a < b) && (((b :: t).zip t).map fun p => decide (p.1 < p.2)).all id)
    rw [ascI_zip (b :: t)]
    rfl
theorem isBr_eq {l : List Sfc} {ds : VDs} : isBr l (.tup ds) = (!ds.list.isEmpty && (ds.list.all (fun d => (colV d).isSome) && (ascI (ds.list.filterMap colV) && isBs l ds))) := by
  cases ds <;> rfl
theorem isBr_no {l : List Sfc} {d : VD} (h : d.kind ≠ "tuple") : isBr l d = false := by
  cases d with
  | tup s => exact absurd rfl h
  | _ => rfl
set_option maxHeartbeats 4000000 in
theorem st_are_branches (T : Txt K mg) (n : Nat) (ih_has_form : Cl P w K mg base CX0 (n + 5) "has_form" s_has_form ["stage", "value"] (spHas K n)) : Cl P w K mg base CX0 (n + 6) "are_branches" s_are_branches ["stage", "value"] (spBra K (n + 1)) := by
  refine cl_of (k := n + 5) T.d_are_branches sc_are_branches (fun vs H Q E h => ?_) (fun f cdv A outer s H vs Q E hr h => ?_)
  · obtain ⟨a, v, l, d, rfl, _⟩ := h
    rfl
  · obtain ⟨a, v, l, d, rfl, hl, hv, hd, hw, q⟩ := h
    have nd := sc_are_branches.nd
    refine ⟨_, (pss_cons (ps_if (PW.pt (pw_or (pt_not (pt_val (pe_callB (call_isi) (by rfl) T.b_isinstance bt_isinstance (pa_cons (pv 1) (pa_cons (pe_bltn (v := .ty "tuple") (by rfl) T.b_tuple bt_tuple rfl) pa_nil))))) (pw_or1 (pt_cmpR (Lw.op_eqE hr.units) (pv 1) (pe_tup pa_nil) (nomark _))))) (pss_one (ps_ret pe_bl)) pss_nil)
      (pss_cons (ps_if (pt_not (pt_val (pe_callB (cr_all rfl) (by rfl) T.b_all bt_all (pa_cons (pe_lc (own := [("pair", 3)]) (g := gName 3) (tt := tYes) rfl nd (pi_tup (pv 1)) (L2.blkOk_by (N := N_are_branches) (sc := defScope s_are_branches) (by decide +kernel)) (fun _ _ _ _ _ => (pg_name (i := 3) nd rfl (Or.inl rfl))) (fun _ _ _ _ _ => pts_nil) (fun _ _ _ _ _ => (pe_and (pe_callB (call_isi : CallR _ _ (rIsi K)) (by rfl) T.b_isinstance bt_isinstance (pa_cons (pv 3) (pa_cons (pe_bltn (v := .ty "tuple") (by rfl) T.b_tuple bt_tuple rfl) pa_nil))) (pe_and (pe_cmpR op_eq (pe_callB (call_len : CallR _ _ (fun xs H Q => ∃ x n, xs = [x] ∧ LenV K x H n ∧ Q (.int n) H)) (by rfl) T.b_len bt_len (pa_cons (pv 3) pa_nil)) pe_int (nomark _)) (pe_one (Lw.pe_cl (c_is_colour T) b_is_colour hr (by omega) (by rfl) pass0 (pa_cons (pe_ix (ix_seq : IxR _ (rIx K)) (pv 3) pe_int (fun _ _ => rfl)) pa_nil))))))) pa_nil)))) (pss_one (ps_ret pe_bl)) pss_nil)
      (pss_cons (ps_setLc (own := [("pair", 3)]) (g := gName 3) (tt := tYes) (i := 2) rfl nd rfl rfl (sw_true rfl rfl rfl (by decide +kernel)) (pi_tup (pv 1)) (L2.blkOk_by (N := N_are_branches) (sc := defScope s_are_branches) (by decide +kernel)) (fun _ _ _ _ _ => (pg_name (i := 3) nd rfl (Or.inl rfl))) (fun _ _ _ _ _ => pts_nil) (fun _ _ _ _ _ => (pe_ix (ix_seq : IxR _ (rIx K)) (pv 3) pe_int (fun _ _ => rfl))))
      (pss_cons (ps_if (pt_not (pt_val (pe_callB (cr_all rfl) (by rfl) T.b_all bt_all (pa_cons (pe_lc (own := [("one", 4), ("other", 5)]) (g := gTup K 2 (gCons (gName 4) (gCons (gName 5) (gNil)))) (tt := tYes) rfl nd (RZ.pi_zipA (by rfl) T.b_zip (pa_cons (pv 2) (pa_cons (pe_slice sl_list (pv 2) (po_some pe_int) po_none) pa_nil))) (L2.blkOk_by (N := N_are_branches) (sc := defScope s_are_branches) (by decide +kernel)) (fun _ _ _ _ _ => (pg_tup rfl (pgs_cons (pg_name (i := 4) nd rfl (Or.inl rfl)) (pgs_cons (pg_name (i := 5) nd rfl (Or.inl rfl)) pgs_nil)))) (fun _ _ _ _ _ => pts_nil) (fun _ _ _ _ _ => (pe_cmpR op_lt (pv 4) (pv 5) (nomark _)))) pa_nil)))) (pss_one (ps_ret pe_bl)) pss_nil)
      (pss_one (ps_ret (pe_callB (cr_all rfl) (by rfl) T.b_all bt_all (pa_cons (pe_lc (own := [("pair", 3)]) (g := gName 3) (tt := tYes) rfl nd (pi_tup (pv 1)) (L2.blkOk_by (N := N_are_branches) (sc := defScope s_are_branches) (by decide +kernel)) (fun _ _ _ _ _ => (pg_name (i := 3) nd rfl (Or.inl rfl))) (fun _ _ _ _ _ => pts_nil) (fun _ _ _ _ _ => (Lw.pe_cl ih_has_form b_has_form hr (by omega) (by rfl) pass0 (pa_cons (pv 0) (pa_cons (pe_ix (ix_seq : IxR _ (rIx K)) (pv 3) pe_int (fun _ _ => rfl)) pa_nil))))) pa_nil)))))))), ?_⟩
    rw [show L2.start N_are_branches [V.ref a, v] = [some (V.ref a), some v, none, none, none, none] from rfl]
    by_cases ht : d.kind = "tuple"
    · cases hv with
      | tup h vs =>
        rename_i tv xs ds
        have hsq : SqT K H tv xs := h.sq
        have kv : Kd H (.ref tv) "tuple" := h.kd
        rw [isBr_eq] at q
        repeat fail "st"
        intro t0 n_t0
        generalize hh : upd _ t0 _ = H_t0
        have e_t0 := newEx hh n_t0
        have h_t0 := newAt hh
        clear hh
        have hsq := ex_t e_t0 hsq
        have hl := hl.up e_t0
        have vs := VsAt.up e_t0 vs
        refine ⟨tv, t0, xs, rfl, rfl, hsq, h_t0, ?_⟩
        repeat fail "st"
        refine ifB (fun h1 => ?_) (fun h1 => ?_)
        · have e0 : xs = [] := List.isEmpty_iff.mp h1
          have e1 : ds.list.isEmpty = true := by
            rw [List.isEmpty_iff, ← List.length_eq_zero_iff, ← vs_len vs, e0]
            rfl
          rw [e1] at q
          repeat fail "st"
          exact q _ e_t0
        have e1 : ds.list.isEmpty = false := by
          cases e : ds.list with
          | nil =>
            have := vs_len vs
            rw [e] at this
            rw [List.length_eq_zero_iff.mp this] at h1
            cases h1
          | cons _ _ => rfl
        have lxs := vs_len vs
        have wx : xs.length ≤ 50000 := by
          have : max ds.list.length (wdVs ds) ≤ 50000 := hw
          omega
        rw [e1] at q
        replace q : ∀ H', Ex H H' → Q (.bl (ds.list.all (fun d => (colV d).isSome) && (ascI (ds.list.filterMap colV) && isBs l ds))) H' := q
        rw [show ds.list.all (fun d => (colV d).isSome) = (ds.list.map fun d => (colV d).isSome).all id from by rw [List.all_map]; rfl] at q
        repeat fail "st"
        intro D hD
        refine lcT (All fun i v _ => ∃ d, ds.list[i]? = some d ∧ v = V.bl (colV d).isSome) (all_mono fun _ _ _ _ _ h => h) hD hsq wx (fun i x hi G eG Q1 Q2 q1 q2 => ?_) (fun H2 os2 e2 hl2 hD2 hp2 => ?_)
        · obtain ⟨d, hd1, hx⟩ := vs_get vs hi
          have hx := VAt.up eG hx
          by_cases hk : d.kind = "tuple"
          · cases hx with
            | tup h vs2 =>
              rename_i t2 xs2 ds2
              have hs2 : SqT K G t2 xs2 := h.sq
              have k2 : Kd G (.ref t2) "tuple" := h.kd
              have l2 := vs_len vs2
              repeat fail "st"
              refine ifD (fun h2 => ?_) (fun h2 => ?_)
              · have l3 := lenN (m := 2).mp h2
                obtain ⟨y, z, dy, dz, rfl, rfl, hy, _⟩ := vs_two vs2 l3
                have ky := hy.kd
                repeat fail "st"
                rw [inB_inD hy]
                exact q1 _ _ (Ex.refl _) ⟨_, rfl, _, hd1, by rw [colV_two]⟩
              · have cn := colV_len (ds := ds2) (fun z => h2 (lenN (m := 2).mpr (by omega)))
                exact q1 _ _ (Ex.refl _) ⟨_, rfl, _, hd1, by rw [cn]; rfl⟩
            | odd k h =>
              rcases h with rfl | rfl <;> exact absurd hk (by decide)
            | non => exact absurd hk (by decide)
            | bl b => exact absurd (show "bool" = "tuple" from hk) (by decide)
            | int b => exact absurd (show "int" = "tuple" from hk) (by decide)
            | str b => exact absurd (show "str" = "tuple" from hk) (by decide)
          · have kx := hx.kd
            have cn : colV d = none := by
              cases d with
              | tup s => exact absurd rfl hk
              | _ => rfl
            repeat fail "st"
            refine ifB (fun h => ?_) (fun h => ?_)
            · rw [isK_ne hk (by decide)] at h
              cases h
            · exact q1 _ _ (Ex.refl _) ⟨_, rfl, _, hd1, by rw [cn]; rfl⟩
        obtain ⟨ys, ey, ly, hy⟩ := All.end hp2
        rw [ey] at hD2
        have eb := Lw.bools_of (p := fun d => (colV d).isSome) (xs := ds.list) (ys := ys) (by omega) (fun i y e => let ⟨d, a, b⟩ := hy i y e; ⟨d, a, b⟩)
        rw [eb] at hD2
        have hsq := ex_t e2 hsq
        have hl := hl.up e2
        have vs := VsAt.up e2 vs
        have eA := e_t0.trans e2
        clear hp2 hy ey eb hl2 ly hD e_t0 e2 h_t0
        repeat fail "st"
        refine ifNt (fun h2 => ?_) (fun h2 => ?_)
        · rw [h2] at q
          repeat fail "st"
          exact q _ eA
        rw [h2] at q
        obtain ⟨rows, er, ec, _⟩ := rows_all h2
        rw [ec, isBs_rows er] at q
        replace q : ∀ H', Ex H H' → Q (.bl (ascI (rows.map (·.1)) && (rows.map fun p => isF l p.2).all id)) H' := q
        have lrow : rows.length = xs.length := by rw [lxs, er, List.length_map]
        have row : ∀ (i : Nat) (x : V) (G : Hp), Ex H2 G → xs[i]? = some x → ∃ t u p, x = .ref t ∧ rows[i]? = some p ∧ SqT K G t [.int p.1, u] ∧ VAt G u p.2 := fun i x G eG hi => by
          obtain ⟨d, hd1, hx⟩ := vs_get vs hi
          rw [er, List.getElem?_map] at hd1
          obtain ⟨p, hp, rfl⟩ := Option.map_eq_some_iff.mp hd1
          have hx := VAt.up eG hx
          cases hx with
          | tup h vs2 =>
            cases vs2 with
            | cons h1 vs2 => cases vs2 with
              | cons h2 vs2 =>
                cases vs2
                cases h1
                exact ⟨_, _, p, rfl, hp, h.sq, h2⟩
        clear hD2
        repeat fail "st"
        intro D hD
        refine lcT (All fun i v _ => ∃ p, rows[i]? = some p ∧ v = V.int p.1) (all_mono fun _ _ _ _ _ h => h) hD hsq wx (fun i x hi G eG Q1 Q2 q1 q2 => ?_) (fun H3 os3 e3 hl3 hD3 hp3 => ?_)
        · obtain ⟨t, u, p, rfl, hp, hs2, _⟩ := row i x G eG hi
          repeat fail "st"
          exact q1 _ _ (Ex.refl _) ⟨_, rfl, p, hp, rfl⟩
        obtain ⟨ys, ey, ly, hy⟩ := All.end hp3
        rw [ey] at hD3
        have eb : ys = (rows.map (·.1)).map V.int := by
          refine List.ext_getElem? fun i => ?_
          rw [List.getElem?_map, List.getElem?_map]
          by_cases hi : i < ys.length
          · obtain ⟨o, ho, e⟩ := hy i _ (List.getElem?_eq_getElem hi)
            rw [List.getElem?_eq_getElem hi, e, ho]
            rfl
          · rw [List.getElem?_eq_none (by omega), List.getElem?_eq_none (by omega)]
            rfl
        rw [eb] at hD3
        have hsq := ex_t e3 hsq
        have hl := hl.up e3
        have row := fun i x G eG hi => row i x G (e3.trans eG) hi
        have eA := eA.trans e3
        clear hp3 hy ey eb hl3 ly hD e3
        generalize hcs : rows.map (·.1) = cs at *
        have lcs : cs.length = rows.length := by rw [← hcs, List.length_map]
        repeat fail "st"
        try dsimp only [List.set]
        intro p n_p
        generalize hh : upd _ p _ = H_p
        have e_p := newEx hh n_p
        have h_p := newAt hh
        clear hh
        rw [Lw.cut1, ← List.map_tail] at h_p
        have hD3 := e_p _ _ hD3
        have hsq := ex_t e_p hsq
        have hl := hl.up e_p
        have row := fun i x G eG hi => row i x G (e_p.trans eG) hi
        have eA := eA.trans e_p
        clear e_p n_p
        repeat fail "st"
        refine ⟨_, _, _, _, rfl, .inl ⟨SqL.of hD3, SqL.of h_p, ?_⟩⟩
        intro D4 hD4
        have hzl : (cs.zip cs.tail).length = cs.tail.length := by
          rw [List.length_zip, List.length_tail]
          omega
        refine lcZ (K := K) (All fun i v _ => ∃ p : Int × Int, (cs.zip cs.tail)[i]? = some p ∧ v = V.bl (decide (p.1 < p.2))) (all_mono fun _ _ _ _ _ h => h) hD4 (SqL.of hD3) (SqL.of h_p) (by rw [List.length_map, List.length_map, List.length_tail]; omega) (by rw [List.length_map, List.length_tail]; omega) (fun i x y t G hx hy eG ht Q1 Q2 q1 q2 => ?_) (fun H5 os5 e5 hl5 hD5 hp5 => ?_)
        · rw [List.getElem?_map] at hx hy
          obtain ⟨c1, hc1, rfl⟩ := Option.map_eq_some_iff.mp hx
          obtain ⟨c2, hc2, rfl⟩ := Option.map_eq_some_iff.mp hy
          repeat fail "st"
          exact q1 _ _ (Ex.refl _) ⟨_, rfl, (c1, c2), by rw [List.getElem?_zip_eq_some]; exact ⟨hc1, hc2⟩, rfl⟩
        obtain ⟨ys, ey, ly, hy⟩ := All.end hp5
        rw [ey] at hD5
        have eb := Lw.bools_of (p := fun p : Int × Int => decide (p.1 < p.2)) (xs := cs.zip cs.tail) (ys := ys) (by rw [hzl, ly, hl5, List.length_map]) (fun i y e => let ⟨d, a, b⟩ := hy i y e; ⟨d, a, b⟩)
        rw [eb] at hD5
        rw [ascI_zip cs] at q
        have hsq := ex_t e5 hsq
        have hl := hl.up e5
        have row := fun i x G eG hi => row i x G (e5.trans eG) hi
        have eA := eA.trans e5
        clear hp5 hy ey eb hl5 ly e5 h_p hD3
        repeat fail "st"
        refine ifNt (fun h3 => ?_) (fun h3 => ?_)
        · rw [h3] at q
          repeat fail "st"
          exact q _ eA
        rw [h3] at q
        replace q : ∀ H', Ex H H' → Q (.bl ((rows.map fun p => isF l p.2).all id)) H' := q
        clear hD5
        repeat fail "st"
        intro D hD
        refine lcT (All fun i v _ => ∃ p : Int × VD, rows[i]? = some p ∧ v = V.bl (isF l p.2)) (all_mono fun _ _ _ _ _ h => h) hD hsq wx (fun i x hi G eG Q1 Q2 q1 q2 => ?_) (fun H6 os6 e6 hl6 hD6 hp6 => ?_)
        · obtain ⟨t, u, p, rfl, hp, hs2, hu⟩ := row i x G eG hi
          have hlG := hl.up eG
          have mp : rowV p ∈ ds.list := by
            rw [er]
            exact List.mem_map.mpr ⟨p, List.mem_of_getElem? hp, rfl⟩
          have dp : dpV p.2 ≤ n := by
            have h1 : 1 + dpVs ds ≤ n + 1 := hd
            have h2 : 1 + max (dpV (.int p.1)) (max (dpV p.2) 0) ≤ dpVs ds := dpVs_mem mp
            omega
          have wp : wdV p.2 ≤ 50000 := by
            have h1 : max ds.list.length (wdVs ds) ≤ 50000 := hw
            have h2 : max 2 (max (wdV (.int p.1)) (max (wdV p.2) 0)) ≤ wdVs ds := wdVs_mem mp
            omega
          repeat fail "st"
          exact ⟨a, u, l, p.2, rfl, hlG, hu, dp, wp, fun H4 e4 => q1 _ _ e4 ⟨_, rfl, p, hp, rfl⟩⟩
        obtain ⟨ys, ey, ly, hy⟩ := All.end hp6
        rw [ey] at hD6
        have eb := Lw.bools_of (p := fun p : Int × VD => isF l p.2) (xs := rows) (ys := ys) (by omega) (fun i y e => let ⟨d, a, b⟩ := hy i y e; ⟨d, a, b⟩)
        rw [eb] at hD6
        repeat fail "st"
        exact q _ (eA.trans e6)
      | odd k h =>
        rcases h with rfl | rfl <;> exact absurd ht (by decide)
      | non => exact absurd ht (by decide)
      | bl b => exact absurd (show "bool" = "tuple" from ht) (by decide)
      | int b => exact absurd (show "int" = "tuple" from ht) (by decide)
      | str b => exact absurd (show "str" = "tuple" from ht) (by decide)
    · have kv := hv.kd
      rw [isBr_no ht] at q
      repeat fail "st"
      refine ifB (fun h => ?_) (fun h => ?_)
      · repeat fail "st"
        exact q H (Ex.refl _)
      · rw [isK_ne ht (by decide)] at h
        cases h
theorem c_forms (T : Txt K mg) : ∀ n : Nat, Cl P w K mg base CX0 (n + 5) "has_form" s_has_form ["stage", "value"] (spHas K n) ∧ Cl P w K mg base CX0 (n + 5) "are_branches" s_are_branches ["stage", "value"] (spBra K n)
  | 0 => by
    refine ⟨cl_false T.d_has_form fun vs H Q E h => ?_, cl_false T.d_are_branches fun vs H Q E h => ?_⟩
    · obtain ⟨a, v, l, d, _, _, _, h, _⟩ := h
      have := dpV_pos d
      omega
    · obtain ⟨a, v, l, d, _, _, _, h, _⟩ := h
      have := dpV_pos d
      omega
  | n + 1 => by
    obtain ⟨h1, h2⟩ := c_forms T n
    exact ⟨st_has_form T n h1 h2, st_are_branches T n h1⟩
theorem c_has_form (T : Txt K mg) (n : Nat) : Cl P w K mg base CX0 (n + 5) "has_form" s_has_form ["stage", "value"] (spHas K n) := (c_forms T n).1
end

end K45
namespace K45
open PySem PySem.Spec PyProof.Rows L2 Evl Lw
section
variable {P : Program} {w : World} {K : PySem.W.Frag} {mg : Str → Option Value} {base : Heap}
mutual
def datF : Fo.Form Cell → PyData
  | .col c => .tuple [.str "colour", .int c]
  | .cel k => .tuple [.str "cell", datC k]
  | .ask k rows o => .tuple [.str "ask", datC k, .tuple (datR rows), datF o]
def datR : Fo.Rows Cell → List PyData
  | .nil => []
  | .cons c f t => .tuple [.int c, datF f] :: datR t
end
mutual
theorem dp_form {H : Hp} : ∀ {v : V} {f : Fo.Form Cell}, FormAt H v f → Dp K H v (datF f)
  | _, _, .col h => .tup (SqT.of h) (.cons (.str _) (.cons (.int _) .nil))
  | _, _, .cel h k => .tup (SqT.of h) (.cons (.str _) (.cons (dp_cell k) .nil))
  | _, _, .ask h k t r o => .tup (SqT.of h) (.cons (.str _) (.cons (dp_cell k) (.cons (.tup t.sq (dp_rows r)) (.cons (dp_form o) .nil))))
theorem dp_rows {H : Hp} : ∀ {ws : List V} {r : Fo.Rows Cell}, RowsAt H ws r → DpAll K H ws (datR r)
  | _, _, .nil => .nil
  | _, _, .cons h f t => .cons (.tup (SqT.of h) (.cons (.int _) (.cons (dp_form f) .nil))) (dp_rows t)
end
theorem cell_lay {k : Cell} (h : PyData.strOk k.1 = true) : PyData.canLay0 (datC k) = true := by simp [datC, PyData.canLay0, PyData.canLayAll0, h]
mutual
theorem lay_form {H : Hp} : ∀ {v : V} {f : Fo.Form Cell}, FormAt H v f → PyData.canLay0 (datF f) = true
  | _, _, .col _ => by
    show (PyData.strOk "colour" && (true && true)) = true
    decide +kernel
  | _, _, .cel _ k => by
    show (PyData.strOk "cell" && (PyData.canLay0 (datC _) && true)) = true
    rw [cell_lay k.2]
    decide +kernel
  | _, _, .ask _ k _ r o => by
    show (PyData.strOk "ask" && (PyData.canLay0 (datC _) && (PyData.canLayAll0 (datR _) && (PyData.canLay0 (datF _) && true)))) = true
    rw [cell_lay k.2, lay_rows r, lay_form o]
    decide +kernel
theorem lay_rows {H : Hp} : ∀ {ws : List V} {r : Fo.Rows Cell}, RowsAt H ws r → PyData.canLayAll0 (datR r) = true
  | _, _, .nil => rfl
  | _, _, .cons _ f t => by
    show ((true && (PyData.canLay0 (datF _) && true)) && PyData.canLayAll0 (datR _)) = true
    rw [lay_form f, lay_rows t]
    rfl
end
mutual
theorem dep_form : ∀ f : Fo.Form Cell, PyData.depth (datF f) ≤ 3 * dpF f + 2
  | .col c => by show PyData.depth (.tuple [.str "colour", .int c]) ≤ _; simp [PyData.depth, PyData.depthAll]
  | .cel k => by show PyData.depth (.tuple [.str "cell", .tuple [.str k.1, .int k.2.1, .int k.2.2]]) ≤ _; simp [PyData.depth, PyData.depthAll, dpF]
  | .ask k rows o => by
    have h1 := dep_rows rows
    have h2 := dep_form o
    show PyData.depth (.tuple [.str "ask", .tuple [.str k.1, .int k.2.1, .int k.2.2], .tuple (datR rows), datF o]) ≤ 3 * (1 + max (dpR rows) (dpF o)) + 2
    simp only [PyData.depth, PyData.depthAll]
    omega
theorem dep_rows : ∀ r : Fo.Rows Cell, PyData.depthAll (datR r) ≤ 3 * dpR r + 3
  | .nil => by simp [datR, PyData.depthAll]
  | .cons c f t => by
    have h1 := dep_form f
    have h2 := dep_rows t
    show PyData.depthAll (.tuple [.int c, datF f] :: datR t) ≤ 3 * max (dpF f) (dpR t) + 3
    simp only [PyData.depth, PyData.depthAll]
    omega
end
theorem shaped_form {H : Hp} {v : V} {f : Fo.Form Cell} (h : FormAt H v f) (d : dpF f ≤ 18) : SeqAt.shaped (datF f) = true := by
  unfold SeqAt.shaped
  rw [Bool.and_eq_true]
  refine ⟨lay_form h, decide_eq_true ?_⟩
  have := dep_form f
  omega
mutual
theorem eqv_form : ∀ f g : Fo.Form Cell, PyData.eqv (datF f) (datF g) = decide (f = g)
  | .col c, .col d => by
    show ((("colour" : Str) == "colour") && ((c == d) && true)) = _
    rw [Bool.eq_iff_iff]
    simp
  | .col c, .cel l => (show PyData.eqv (datF (.col c)) (datF (.cel l)) = false from (show ((("colour" : Str) == "cell") && PyData.eqvAll [.int c] [datC l]) = false from by
    rw [show (("colour" : Str) == "cell") = false from by decide +kernel]
    rfl)).trans (by simp)
  | .col c, .ask l s p => (show PyData.eqv (datF (.col c)) (datF (.ask l s p)) = false from (show ((("colour" : Str) == "ask") && PyData.eqvAll [.int c] [datC l, .tuple (datR s), datF p]) = false from by
    rw [show (("colour" : Str) == "ask") = false from by decide +kernel]
    rfl)).trans (by simp)
  | .cel k, .col d => (show PyData.eqv (datF (.cel k)) (datF (.col d)) = false from (show ((("cell" : Str) == "colour") && PyData.eqvAll [datC k] [.int d]) = false from by
    rw [show (("cell" : Str) == "colour") = false from by decide +kernel]
    rfl)).trans (by simp)
  | .cel k, .cel l => by
    show ((("cell" : Str) == "cell") && (PyData.eqv (datC k) (datC l) && true)) = _
    rw [eqv_cell, Bool.eq_iff_iff]
    simp
  | .cel k, .ask l s p => (show PyData.eqv (datF (.cel k)) (datF (.ask l s p)) = false from (show ((("cell" : Str) == "ask") && PyData.eqvAll [datC k] [datC l, .tuple (datR s), datF p]) = false from by
    rw [show (("cell" : Str) == "ask") = false from by decide +kernel]
    rfl)).trans (by simp)
  | .ask k r o, .col d => (show PyData.eqv (datF (.ask k r o)) (datF (.col d)) = false from (show ((("ask" : Str) == "colour") && PyData.eqvAll [datC k, .tuple (datR r), datF o] [.int d]) = false from by
    rw [show (("ask" : Str) == "colour") = false from by decide +kernel]
    rfl)).trans (by simp)
  | .ask k r o, .cel l => (show PyData.eqv (datF (.ask k r o)) (datF (.cel l)) = false from (show ((("ask" : Str) == "cell") && PyData.eqvAll [datC k, .tuple (datR r), datF o] [datC l]) = false from by
    rw [show (("ask" : Str) == "cell") = false from by decide +kernel]
    rfl)).trans (by simp)
  | .ask k r o, .ask l s p => by
    show ((("ask" : Str) == "ask") && (PyData.eqv (datC k) (datC l) && (PyData.eqvAll (datR r) (datR s) && (PyData.eqv (datF o) (datF p) && true)))) = _
    rw [eqv_cell, eqv_rows r s, eqv_form o p, Bool.eq_iff_iff]
    simp
theorem eqv_rows : ∀ r s : Fo.Rows Cell, PyData.eqvAll (datR r) (datR s) = decide (r = s)
  | .nil, .nil => rfl
  | .nil, .cons _ _ _ => by
    rw [show PyData.eqvAll (datR .nil) (datR (.cons _ _ _)) = false from rfl]
    simp
  | .cons _ _ _, .nil => by
    rw [show PyData.eqvAll (datR (.cons _ _ _)) (datR .nil) = false from rfl]
    simp
  | .cons c f t, .cons d g u => by
    show (((c == d) && (PyData.eqv (datF f) (datF g) && true)) && PyData.eqvAll (datR t) (datR u)) = _
    rw [eqv_form f g, eqv_rows t u, Bool.eq_iff_iff]
    simp [and_assoc]
end
theorem eq_form {H : Hp} {a b : V} {f g : Fo.Form Cell} (ha : FormAt H a f) (hb : FormAt H b g) (da : dpF f ≤ 18) (db : dpF g ≤ 18) {Q : VK} (q : Q (.bl (decide (f = g))) H) : rEqD K a b H Q :=
  ⟨_, _, dp_form ha, dp_form hb, shaped_form ha da, shaped_form hb db, by rw [eqv_form]; exact q⟩
theorem ne_form {H : Hp} {a b : V} {f g : Fo.Form Cell} (ha : FormAt H a f) (hb : FormAt H b g) (da : dpF f ≤ 18) (db : dpF g ≤ 18) {Q : VK} (q : Q (.bl (!decide (f = g))) H) : rNeD K a b H Q :=
  ⟨_, _, dp_form ha, dp_form hb, shaped_form ha da, shaped_form hb db, by rw [eqv_form]; exact q⟩
end

end K45
namespace K45
open PySem PySem.Spec PyProof.Rows L2 Evl Lw
section
variable {P : Program} {w : World} {K : PySem.W.Frag} {mg : Str → Option Value} {base : Heap}
/-- colours ascend everywhere -/
def AscF (f : Fo.Form Cell) : Prop := Fo.Ok (fun _ => True) (fun _ => True) (fun _ => True) f
def AscR (r : Fo.Rows Cell) : Prop := Fo.OkR (fun _ => True) (fun _ => True) (fun _ => True) r
theorem ascR_mem : ∀ {r : Fo.Rows Cell} {p : Int × Fo.Form Cell}, AscR r → p ∈ r.list → AscF p.2
  | .nil, p, _, m => by cases m
  | .cons c f t, p, h, m => by
    rcases List.mem_cons.mp m with rfl | m
    · exact h.2.1
    · exact ascR_mem (show AscR t from h.2.2) m
theorem rows_kv {H : Hp} : ∀ {ws : List V} {r : Fo.Rows Cell}, RowsAt H ws r → ∃ (qs : List Addr) (ps : List (Int × V)), ws = qs.map V.ref ∧ Paired (KvAt H) qs ps ∧ ps.map (·.1) = Fo.cols r ∧
    ∀ c, (∃ v g, (ps.find? fun p => decide (c = p.1)).map (·.2) = some v ∧ FormAt H v g ∧ (c, g) ∈ r.list ∧ ∀ s, Fo.putAt s c r = some (Fo.put s c g)) ∨ ((ps.find? fun p => decide (c = p.1)).map (·.2) = none ∧ ∀ s, Fo.putAt s c r = none)
  | _, _, .nil => ⟨[], [], rfl, .nil, rfl, fun c => .inr ⟨rfl, fun s => rfl⟩⟩
  | _, _, .cons (p := p) (v := v) (c := d) (f := f) h hf t => by
    obtain ⟨qs, ps, rfl, a, b, q⟩ := rows_kv t
    refine ⟨p :: qs, (d, v) :: ps, rfl, .cons h a, by rw [List.map_cons, b]; rfl, fun c => ?_⟩
    rw [List.find?_cons]
    by_cases e : c = d
    · subst e
      refine .inl ⟨v, f, by simp, hf, List.mem_cons_self, fun s => ?_⟩
      show (if c = c then _ else _) = _
      rw [if_pos rfl]
    · rw [show (decide (c = ((d, v) : Int × V).1)) = false from decide_eq_false e]
      rcases q c with ⟨u, g, q1, q2, q3, q4⟩ | ⟨q1, q2⟩
      · refine .inl ⟨u, g, q1, q2, List.mem_cons_of_mem _ q3, fun s => ?_⟩
        show (if c = d then _ else _) = _
        rw [if_neg e]
        exact q4 s
      · refine .inr ⟨q1, fun s => ?_⟩
        show (if c = d then _ else _) = _
        rw [if_neg e]
        exact q2 s
def spPut (n : Nat) : Sp := fun vs H Q _ => ∃ v f a s c, vs = [v, .ref a, .int c] ∧ FormAt H v f ∧ CellAt H a s ∧ AscF f ∧ dpF f ≤ n ∧ dpF f ≤ 18 ∧ szF f ≤ 50000 ∧ ∀ v' H', Ex H H' → FormAt H' v' (Fo.put s c f) → Q v' H'
set_option maxHeartbeats 4000000 in
theorem c_put (T : Txt K mg) : ∀ n : Nat, Cl P w K mg base CX0 n "put" s_put ["form", "key", "colour"] (spPut n)
  | 0 => cl_false T.d_put fun vs H Q E h => by
    obtain ⟨v, f, _, _, _, _, _, _, _, h, _⟩ := h
    have := dpF_pos f
    omega
  | n + 1 => by
    have ih_put := c_put T n
    refine cl_of (k := n) T.d_put sc_put (fun vs H Q E h => ?_) (fun f cdv A outer st H vs Q E hr h => ?_)
    · obtain ⟨v, f, a, s, c, rfl, _⟩ := h
      rfl
    · obtain ⟨v, fo, ka, s, c, rfl, hf, hk, asc, hd, h18, hs, q⟩ := h
      have nd := sc_put.nd
      refine ⟨_, (pss_cons (ps_if (pt_cmpR (op_eqD hr.units) (pv 0) (pe_tup (pa_cons pe_str (pa_cons (pv 1) pa_nil))) (nomark _)) (pss_one (ps_ret (pe_tup (pa_cons pe_str (pa_cons (pv 2) pa_nil))))) pss_nil)
      (pss_cons (ps_if (pt_cmpR op_ne (pe_ix ix_seq (pv 0) pe_int (fun _ _ => rfl)) pe_str (nomark _)) (pss_one (ps_ret (pv 0))) pss_nil)
      (pss_cons (ps_asg (pv 0) (pg_tup rfl (pgs_cons (pg_name (i := 3) nd rfl (Or.inl rfl)) (pgs_cons (pg_name (i := 4) nd rfl (Or.inl rfl)) (pgs_cons (pg_name (i := 5) nd rfl (Or.inl rfl)) (pgs_cons (pg_name (i := 6) nd rfl (Or.inl rfl)) pgs_nil))))))
      (pss_cons (ps_if (pt_cmpR (op_eqD hr.units) (pv 4) (pv 1) (nomark _)) (pss_one (ps_ret (Lw.pe_cl ih_put b_put hr (by omega) (by rfl) pass0 (pa_cons (pe_dget2 (Lw.u1 hr.units) (pe_callTy (Lw.cr_dictG rfl) (by rfl) T.b_dict bt_dict (pa_cons (pv 5) pa_nil)) (pv 2) (pv 6) ⟨rfl, rfl, rfl, rfl⟩) (pa_cons (pv 1) (pa_cons (pv 2) pa_nil)))))) pss_nil)
      (pss_one (ps_ret (pe_tup (pa_cons (pv 3) (pa_cons (pv 4) (pa_cons (pe_callTy (Lw.cr_tupF) (by rfl) T.b_tuple bt_tuple (pa_cons (pe_lc (own := [("one", 7), ("inner", 8)]) (g := gTup K 2 (gCons (gName 7) (gCons (gName 8) (gNil)))) (tt := tYes) rfl nd (pi_tup (pv 5)) (L2.blkOk_by (N := N_put) (sc := defScope s_put) (by decide +kernel)) (fun _ _ _ _ _ => (pg_tup rfl (pgs_cons (pg_name (i := 7) nd rfl (Or.inl rfl)) (pgs_cons (pg_name (i := 8) nd rfl (Or.inl rfl)) pgs_nil)))) (fun _ _ _ _ _ => pts_nil) (fun _ _ _ _ _ => (pe_tup (pa_cons (pv 7) (pa_cons (Lw.pe_cl ih_put b_put hr (by omega) (by rfl) pass0 (pa_cons (pv 8) (pa_cons (pv 1) (pa_cons (pv 2) pa_nil)))) pa_nil))))) pa_nil)) (pa_cons (Lw.pe_cl ih_put b_put hr (by omega) (by rfl) pass0 (pa_cons (pv 6) (pa_cons (pv 1) (pa_cons (pv 2) pa_nil)))) pa_nil))))))))))), ?_⟩
      repeat fail "st"
      intro t1 n_t1
      generalize hh : upd _ t1 _ = H_t1
      have e_t1 := newEx hh n_t1
      have h_t1 := newAt hh
      clear hh
      refine eq_form (hf.up e_t1) (.cel h_t1 (hk.up e_t1)) h18 (by show 1 ≤ 18; decide) ?_
      repeat fail "st"
      refine ifD (fun hb => ?_) (fun hb => ?_)
      · repeat fail "st"
        intro t2 n_t2
        generalize hh : upd _ t2 _ = H_t2
        have e_t2 := newEx hh n_t2
        have h_t2 := newAt hh
        clear hh
        refine q _ _ (e_t1.trans e_t2) ?_
        rw [hb, show Fo.put s c (.cel s) = .col c from by conv => { lhs; unfold Fo.put }; rw [if_pos rfl]]
        exact .col h_t2
      · have hk := hk.up e_t1
        have hf := hf.up e_t1
        cases hf with
        | col h =>
          repeat fail "st"
          exact q _ _ e_t1 (.col h)
        | cel h k =>
          repeat fail "st"
          refine q _ _ e_t1 ?_
          rw [show ∀ l : Cell, Fo.Form.cel l ≠ Fo.Form.cel s → Fo.put s c (.cel l) = .cel l from fun l n => by conv => { lhs; unfold Fo.put }; rw [if_neg fun z => n (by rw [z])]]
          · exact .cel h k
          · exact hb
        | ask h k' t r' o' =>
          rename_i tf a r v k ws rows o
          have hdo : dpF o ≤ n ∧ dpF o ≤ 18 := by
            have h1 : 1 + max (dpR rows) (dpF o) ≤ n + 1 := hd
            have h2 : 1 + max (dpR rows) (dpF o) ≤ 18 := h18
            omega
          have hdr : dpR rows ≤ n ∧ dpR rows ≤ 18 := by
            have h1 : 1 + max (dpR rows) (dpF o) ≤ n + 1 := hd
            have h2 : 1 + max (dpR rows) (dpF o) ≤ 18 := h18
            omega
          have hsz : 1 + (szR rows + szF o) ≤ 50000 := hs
          obtain ⟨_, ar, aR, aO⟩ : True ∧ Fo.Asc rows ∧ AscR rows ∧ AscF o := asc
          repeat fail "st"
          refine eq_cell k' hk ?_
          repeat fail "st"
          refine ifD (fun hc => ?_) (fun hc => ?_)
          · repeat fail "st"
            obtain ⟨qs, ps, rfl, pk, ec, fnd⟩ := rows_kv r'
            refine ⟨r, qs, ps, rfl, t, pk, ?_⟩
            intro dd n_dd
            generalize hh : upd _ dd _ = H_dd
            have e_dd := newEx hh n_dd
            have h_dd := newAt hh
            clear hh
            have en : mergeK [] (kvG ps) = kvG ps := mergeG_asc (acc := []) (by
              have h := ar.2
              rw [← ec, List.pairwise_map] at h
              exact h.imp fun z => Int.ne_of_lt z)
            rw [en] at h_dd
            refine ⟨dd, rfl, .inl ⟨_, .inl h_dd⟩, ?_⟩
            repeat fail "st"
            refine ⟨_, .inl ⟨_, .inl c, .inl h_dd, rfl, rfl⟩, ?_⟩
            rw [valG]
            have fin : ∀ u g, FormAt H_dd u g → AscF g → dpF g ≤ n → dpF g ≤ 18 → szF g ≤ 50000 → Fo.put s c (.ask k rows o) = Fo.put s c g → spPut n [u, .ref ka, .int c] H_dd Q L2.E0 := fun u g hu ha h1 h2 h3 eg => ⟨u, g, ka, s, c, rfl, hu, hk.up e_dd, ha, h1, h2, h3, fun v' H' e hf' => q _ _ (e_t1.trans (e_dd.trans e)) (by rw [eg]; exact hf')⟩
            have ep : Fo.put s c (.ask k rows o) = (Fo.putAt s c rows).getD (Fo.put s c o) := by conv => { lhs; unfold Fo.put }; rw [if_pos hc]
            rcases fnd c with ⟨u, g, q1, q2, q3, q4⟩ | ⟨q1, q2⟩
            · rw [q1]
              have d1 : dpF g ≤ dpR rows := dpR_mem q3
              have z1 : szF g ≤ szR rows := szR_mem q3
              repeat fail "st"
              refine fin u g (q2.up e_dd) (ascR_mem aR q3) (by omega) (by omega) (by omega) ?_
              rw [ep, q4]
              rfl
            · rw [q1]
              repeat fail "st"
              refine fin v o (o'.up e_dd) aO hdo.1 hdo.2 (by omega) ?_
              rw [ep, q2]
              rfl
          · repeat fail "st"
            intro D hD
            have hlw : ws.length ≤ 50000 := by
              rw [rows_len r']
              have := list_len rows
              omega
            refine lcT (All (MadeAt (Fo.put s c) rows.list)) (all_mono MadeAt.ext) hD t.sq hlw (fun i x hi H1 e1 Q1 Q2 q1 q2 => ?_) (fun H1 os e1 hl hD1 hp => ?_)
            · obtain ⟨p, u, c', g, rfl, hp, hg, hi'⟩ := rows_get r' hi
              have mg := List.mem_of_getElem? hi'
              have d1 : dpF g ≤ dpR rows := dpR_mem mg
              have z1 : szF g ≤ szR rows := szR_mem mg
              have hp1 := e1 _ _ hp
              have hg1 := hg.up e1
              have hk1 := hk.up e1
              repeat fail "st"
              refine ⟨_, _, _, _, _, rfl, hg1, hk1, ascR_mem aR mg, by omega, by omega, Nat.le_trans z1 (by omega), fun v' H2 e2 hf2 => ?_⟩
              repeat fail "st"
              intro tp n_tp
              generalize hh : upd _ tp _ = H_tp
              have e_tp := newEx hh n_tp
              have h_tp := newAt hh
              clear hh
              exact q1 _ _ (e2.trans e_tp) ⟨_, rfl, tp, v', c', g, rfl, hi', h_tp, hf2.up e_tp⟩
            · obtain ⟨ys, ey, ly, hy⟩ := All.end hp
              rw [ey] at hD1
              rw [hl, rows_len r'] at ly
              have rm := made_rows ly hy
              rw [putR_of] at rm
              refine ⟨D, ys, rfl, SqL.of hD1, fun rl ob n_r hob => ?_⟩
              generalize hh : upd _ rl _ = H_r
              have e_r := newEx hh n_r
              have h_r := newAt hh
              clear hh
              have e3 := e1.trans e_r
              have o3 := o'.up e3
              have hk3 := hk.up e3
              have k3 := k'.up e3
              have rm3 := RowsAt.up e_r rm
              repeat fail "st"
              refine ⟨_, _, _, _, _, rfl, o3, hk3, aO, hdo.1, hdo.2, by omega, fun v' H' e hf' => ?_⟩
              repeat fail "st"
              intro fo n_fo
              generalize hh : upd _ fo _ = H_fo
              have e_fo := newEx hh n_fo
              have h_fo := newAt hh
              clear hh
              refine q _ _ (e_t1.trans (e3.trans (e.trans e_fo))) ?_
              rw [show Fo.put s c (.ask k rows o) = .ask k (Fo.putR s c rows) (Fo.put s c o) from by conv => { lhs; unfold Fo.put }; rw [if_neg hc]]
              exact .ask h_fo (k3.up (e.trans e_fo)) ⟨ob, hob, e_fo _ _ (e _ _ h_r)⟩ (RowsAt.up (e.trans e_fo) rm3) (hf'.up e_fo)
end

end K45
namespace K45
open PySem PySem.Spec PyProof.Rows L2 Evl Lw
section
mutual
theorem dp_gen (s : Cell) : ∀ f : Fo.Form Cell, dpF (Fo.general s f) ≤ dpF f
  | .col _ => Nat.le_refl _
  | .cel _ => Nat.le_refl _
  | .ask k rows o => by
    have h1 := dp_genR s rows
    have h2 := dp_gen s o
    show dpF (if k = s then Fo.general s o else .ask k (Fo.generalR s rows) (Fo.general s o)) ≤ 1 + max (dpR rows) (dpF o)
    split
    · omega
    · show 1 + max (dpR (Fo.generalR s rows)) (dpF (Fo.general s o)) ≤ _
      omega
theorem dp_genR (s : Cell) : ∀ r : Fo.Rows Cell, dpR (Fo.generalR s r) ≤ dpR r
  | .nil => Nat.le_refl _
  | .cons c f t => by
    have h1 := dp_gen s f
    have h2 := dp_genR s t
    show max (dpF (Fo.general s f)) (dpR (Fo.generalR s t)) ≤ max (dpF f) (dpR t)
    omega
end
mutual
theorem sz_gen (s : Cell) : ∀ f : Fo.Form Cell, szF (Fo.general s f) ≤ szF f
  | .col _ => Nat.le_refl _
  | .cel _ => Nat.le_refl _
  | .ask k rows o => by
    have h1 := sz_genR s rows
    have h2 := sz_gen s o
    show szF (if k = s then Fo.general s o else .ask k (Fo.generalR s rows) (Fo.general s o)) ≤ 1 + (szR rows + szF o)
    split
    · omega
    · show 1 + (szR (Fo.generalR s rows) + szF (Fo.general s o)) ≤ _
      omega
theorem sz_genR (s : Cell) : ∀ r : Fo.Rows Cell, szR (Fo.generalR s r) ≤ szR r
  | .nil => Nat.le_refl _
  | .cons c f t => by
    have h1 := sz_gen s f
    have h2 := sz_genR s t
    show 1 + (szF (Fo.general s f) + szR (Fo.generalR s t)) ≤ 1 + (szF f + szR t)
    omega
end
mutual
theorem dp_put (s : Cell) (c : Int) : ∀ f : Fo.Form Cell, dpF (Fo.put s c f) ≤ dpF f
  | .col _ => Nat.le_refl _
  | .cel k => by
    show dpF (if k = s then .col c else .cel k) ≤ 1
    split <;> exact Nat.le_refl _
  | .ask k rows o => by
    have h1 := dp_putR s c rows
    have h2 := dp_put s c o
    show dpF (if k = s then (Fo.putAt s c rows).getD (Fo.put s c o) else .ask k (Fo.putR s c rows) (Fo.put s c o)) ≤ 1 + max (dpR rows) (dpF o)
    split
    · cases e : Fo.putAt s c rows with
      | none => show dpF (Fo.put s c o) ≤ _; omega
      | some g =>
        have := dp_putAt s c rows g e
        show dpF g ≤ _
        omega
    · show 1 + max (dpR (Fo.putR s c rows)) (dpF (Fo.put s c o)) ≤ _
      omega
theorem dp_putAt (s : Cell) (c : Int) : ∀ (r : Fo.Rows Cell) (g : Fo.Form Cell), Fo.putAt s c r = some g → dpF g ≤ dpR r
  | .nil, g, h => by cases h
  | .cons d f t, g, h => by
    have h1 := dp_put s c f
    have e : (if c = d then some (Fo.put s c f) else Fo.putAt s c t) = some g := h
    show dpF g ≤ max (dpF f) (dpR t)
    split at e
    · rw [← Option.some.inj e]; omega
    · have := dp_putAt s c t g e
      omega
theorem dp_putR (s : Cell) (c : Int) : ∀ r : Fo.Rows Cell, dpR (Fo.putR s c r) ≤ dpR r
  | .nil => Nat.le_refl _
  | .cons d f t => by
    have h1 := dp_put s c f
    have h2 := dp_putR s c t
    show max (dpF (Fo.put s c f)) (dpR (Fo.putR s c t)) ≤ max (dpF f) (dpR t)
    omega
end
theorem szF_pos : ∀ f : Fo.Form Cell, 1 ≤ szF f
  | .col _ => Nat.le_refl _
  | .cel _ => Nat.le_refl _
  | .ask _ rows o => by show 1 ≤ 1 + _; omega
mutual
theorem sz_put (s : Cell) (c : Int) : ∀ f : Fo.Form Cell, szF (Fo.put s c f) ≤ szF f
  | .col _ => Nat.le_refl _
  | .cel k => by
    show szF (if k = s then .col c else .cel k) ≤ 1
    split <;> exact Nat.le_refl _
  | .ask k rows o => by
    have h1 := sz_putR s c rows
    have h2 := sz_put s c o
    show szF (if k = s then (Fo.putAt s c rows).getD (Fo.put s c o) else .ask k (Fo.putR s c rows) (Fo.put s c o)) ≤ 1 + (szR rows + szF o)
    split
    · cases e : Fo.putAt s c rows with
      | none => show szF (Fo.put s c o) ≤ _; omega
      | some g =>
        have := sz_putAt s c rows g e
        show szF g ≤ _
        omega
    · show 1 + (szR (Fo.putR s c rows) + szF (Fo.put s c o)) ≤ _
      omega
theorem sz_putAt (s : Cell) (c : Int) : ∀ (r : Fo.Rows Cell) (g : Fo.Form Cell), Fo.putAt s c r = some g → szF g ≤ szR r
  | .nil, g, h => by cases h
  | .cons d f t, g, h => by
    have h1 := sz_put s c f
    have e : (if c = d then some (Fo.put s c f) else Fo.putAt s c t) = some g := h
    show szF g ≤ 1 + (szF f + szR t)
    split at e
    · rw [← Option.some.inj e]; omega
    · have := sz_putAt s c t g e
      omega
theorem sz_putR (s : Cell) (c : Int) : ∀ r : Fo.Rows Cell, szR (Fo.putR s c r) ≤ szR r
  | .nil => Nat.le_refl _
  | .cons d f t => by
    have h1 := sz_put s c f
    have h2 := sz_putR s c t
    show 1 + (szF (Fo.put s c f) + szR (Fo.putR s c t)) ≤ 1 + (szF f + szR t)
    omega
end
theorem dpR_of {m : Nat} : ∀ ps : List (Int × Fo.Form Cell), (∀ p ∈ ps, dpF p.2 ≤ m) → dpR (.of ps) ≤ m
  | [], _ => Nat.zero_le _
  | p :: ps, h => by
    have h1 := h p List.mem_cons_self
    have h2 := dpR_of ps fun q mq => h q (List.mem_cons_of_mem _ mq)
    show max (dpF p.2) (dpR (.of ps)) ≤ m
    omega
theorem szR_of {m : Nat} : ∀ ps : List (Int × Fo.Form Cell), (∀ p ∈ ps, szF p.2 ≤ m) → szR (.of ps) ≤ ps.length * (1 + m)
  | [], _ => Nat.zero_le _
  | p :: ps, h => by
    have h1 := h p List.mem_cons_self
    have h2 := szR_of ps fun q mq => h q (List.mem_cons_of_mem _ mq)
    show 1 + (szF p.2 + szR (.of ps)) ≤ (ps.length + 1) * (1 + m)
    rw [Nat.add_mul, Nat.one_mul]
    omega
theorem leaf_of {N : Int → Prop} {E A : Cell → Prop} {f : Fo.Form Cell} (ok : Fo.Ok N E A f) (h : Fo.askedIn f = []) : dpF f = 1 ∧ szF f = 1 := by
  cases f with
  | col c => exact ⟨rfl, rfl⟩
  | cel k => exact ⟨rfl, rfl⟩
  | ask k rows o =>
    exfalso
    obtain ⟨_, z, _⟩ := ok
    cases rows with
    | nil => exact z.1 rfl
    | cons c f t =>
      have e : Fo.askedIn o ++ ((k, c) :: (Fo.askedIn f ++ Fo.askedR k t)) = [] := h
      simp at e
def bigB : Nat → Nat
  | 0 => 1
  | n + 1 => 7 + 7 * bigB n
theorem red_size (lt : Cell → Cell → Bool) {E : Cell → Prop} {C : List Int} (hC : C.length ≤ 6) : ∀ (n : Nat) (f : Fo.Form Cell) (S : List Cell), Fo.Ok (fun c => c ∈ C) E (fun k => k ∈ S) f → S.length ≤ n → dpF (Fo.redN lt n f) ≤ n + 1 ∧ szF (Fo.redN lt n f) ≤ bigB n
  | 0, f, S, ok, hS => by
    obtain rfl : S = [] := List.length_eq_zero_iff.mp (by omega)
    have h : Fo.askedIn f = [] := by
      cases e : Fo.askedIn f with
      | nil => rfl
      | cons p ps =>
        have := (Fo.Ok.asked f ok p (by rw [e]; exact List.mem_cons_self)).1
        cases this
    obtain ⟨a, b⟩ := leaf_of ok h
    exact ⟨Nat.le_of_eq a, Nat.le_of_eq b⟩
  | n + 1, f, S, ok, hS => by
    cases hl : Fo.least lt f with
    | none =>
      rw [Fo.red_none lt hl]
      obtain ⟨a, b⟩ := leaf_of ok (Fo.least_no hl)
      rw [a, b]
      refine ⟨by omega, ?_⟩
      show 1 ≤ 7 + 7 * bigB n
      omega
    | some s =>
      obtain ⟨c0, m0⟩ := Fo.least_mem hl
      have sS : s ∈ S := (Fo.Ok.asked f ok _ m0).1
      have hE : (S.erase s).length ≤ n := by
        rw [List.length_erase_of_mem sS]
        omega
      have mem : ∀ k, k ∈ S ∧ k ≠ s → k ∈ S.erase s := fun k h => (List.mem_erase_of_ne h.2).mpr h.1
      obtain ⟨r1, r2⟩ := red_size lt hC n (Fo.general s f) (S.erase s) (Fo.Ok.mono mem _ (Fo.Ok.gen f ok)) hE
      rw [Fo.red_rows lt hl]
      generalize Fo.redN lt n (Fo.general s f) = rest at r1 r2 ⊢
      generalize hrows : Fo.redRows lt n f s rest = rows
      by_cases he : rows = []
      · rw [if_pos he]
        refine ⟨by omega, ?_⟩
        show szF rest ≤ 7 + 7 * bigB n
        omega
      · rw [if_neg he]
        have hin : ∀ p ∈ rows, dpF p.2 ≤ n + 1 ∧ szF p.2 ≤ bigB n := fun p mp => by
          rw [← hrows] at mp
          obtain ⟨c, mc, rfl⟩ := Fo.redRows_mem lt mp
          have hN := (Fo.Ok.asked f ok _ (Fo.mem_named.mp mc)).2
          exact red_size lt hC n (Fo.put s c f) (S.erase s) (Fo.Ok.mono mem _ (Fo.Ok.put hN f ok)) hE
        have len : rows.length ≤ 6 := by
          have h1 : (Fo.named f s).length ≤ C.length := nodup_len ((Fo.named_lt f s).imp fun z => Int.ne_of_lt z) fun c mc => (Fo.Ok.asked f ok _ (Fo.mem_named.mp mc)).2
          have h2 : rows.length ≤ (Fo.named f s).length := by rw [← hrows]; exact Fo.redRows_len lt
          omega
        have h1 := dpR_of rows fun p mp => (hin p mp).1
        have h2 := szR_of rows fun p mp => (hin p mp).2
        refine ⟨?_, ?_⟩
        · show 1 + max (dpR (.of rows)) (dpF rest) ≤ n + 1 + 1
          omega
        · show 1 + (szR (.of rows) + szF rest) ≤ 7 + 7 * bigB n
          have h3 : rows.length * (1 + bigB n) ≤ 6 * (1 + bigB n) := Nat.mul_le_mul_right _ len
          omega
end

end K45
namespace K45
open PySem PySem.Spec PyProof.Rows L2 Evl Lw
section
variable {P : Program} {w : World} {K : PySem.W.Frag} {mg : Str → Option Value} {base : Heap}
/-- the order of cells -/
def ltC (k l : Cell) : Bool := Lw.dlt (datC k) (datC l)
theorem ltC_asym (k l : Cell) (h : ltC k l = true) : ltC l k = false := Lw.dlt_asym h
theorem toks_cell (k : Cell) : PySem.W.keyToks (datC k) = [.inl 1, .inr k.1.cps.toList, .inl 1, .inl k.2.1, .inl 1, .inl k.2.2, .inl 0] := rfl
theorem ltC_total {k l : Cell} (h1 : ltC k l = false) (h2 : ltC l k = false) : k = l := by
  have e := Lw.dlt_total h1 h2
  rw [toks_cell, toks_cell] at e
  obtain ⟨n, x, y⟩ := k
  obtain ⟨m, u, v⟩ := l
  simp only [List.cons.injEq, Sum.inl.injEq, Sum.inr.injEq, true_and, and_true] at e
  obtain ⟨e1, e2, e3⟩ := e
  rw [PySem.W.str_of_cps e1, e2, e3]
theorem asks_get {H : Hp} : ∀ {qs : List Addr} {ps : List (Cell × Int)} {i : Nat} {x : V}, Asks H qs ps → (qs.map V.ref)[i]? = some x → ∃ q p, x = .ref q ∧ ps[i]? = some p ∧ AskAt H q p
  | _, _, _, _, .nil, e => by cases e
  | _, _, 0, x, .cons (a := q) (b := p) h t, e => ⟨q, p, (Option.some.inj e).symm, rfl, h⟩
  | _, _, i + 1, x, .cons h t, e => asks_get (i := i) (x := x) t e
/-- what is at a cell's place -/
def encC (H : Hp) : V → PyData
  | .ref a => match H a with
    | some (.tup [.str s, .int x, .int y]) => .tuple [.str s, .int x, .int y]
    | _ => .none
  | _ => .none
theorem encC_at {H : Hp} {a : Addr} {k : Cell} (h : CellAt H a k) : encC H (.ref a) = datC k := by
  show (match H a with
    | some (.tup [.str s, .int x, .int y]) => PyData.tuple [.str s, .int x, .int y]
    | _ => .none) = datC k
  rw [h.1]
  rfl
theorem cells_dp {H : Hp} : ∀ {as : List Addr} {ks : List Cell}, Cells H as ks → DpAll K H (as.map V.ref) (ks.map datC) ∧ PyData.canLayAll0 (ks.map datC) = true ∧ PyData.depthAll (ks.map datC) ≤ 1
  | _, _, .nil => ⟨.nil, rfl, Nat.zero_le _⟩
  | _, _, .cons (b := k) h t => by
    obtain ⟨a, b, c⟩ := cells_dp t
    refine ⟨.cons (dp_cell h) a, ?_, ?_⟩
    · show (PyData.canLay0 (datC k) && PyData.canLayAll0 _) = true
      rw [cell_lay h.2, b]
      rfl
    · show max (PyData.depth (datC k)) (PyData.depthAll _) ≤ 1
      exact Nat.max_le.mpr ⟨Nat.le_of_ble_eq_true rfl, c⟩
theorem in_cells {H : Hp} {a l : Addr} {s : Cell} {as : List Addr} {ks : List Cell} {Q : VK} (ha : CellAt H a s) (hl : H l = some (.lst (as.map V.ref))) (h : Cells H as ks) (q : Q (.bl (ks.any fun k => decide (k = s))) H) : rInD K (.ref a) (.ref l) H Q := by
  obtain ⟨h1, h2, h3⟩ := cells_dp (K := K) h
  refine ⟨_, _, dp_cell ha, .lst (SqL.of hl) h1, shaped_cell ha.2, ?_, ?_⟩
  · unfold SeqAt.shaped
    rw [Bool.and_eq_true]
    refine ⟨h2, decide_eq_true ?_⟩
    show PyData.depthAll _ + 1 ≤ 64
    omega
  · rw [List.any_map]
    have e : ((fun z => PyData.eqv z (datC s)) ∘ datC) = fun k => decide (k = s) := funext fun k => eqv_cell k s
    rw [e]
    exact q
/-- the colour of a pair whose key is s -/
def colA (H : Hp) (s : Cell) : V → Option Int
  | .ref q => match H q with
    | some (.tup [.ref a, .int c]) => (match H a with
      | some (.tup [.str n, .int x, .int y]) => if (n, x, y) = s then some c else none
      | _ => none)
    | _ => none
  | _ => none
theorem colA_at {H : Hp} {s : Cell} {q : Addr} {p : Cell × Int} (h : AskAt H q p) : colA H s (.ref q) = if p.1 = s then some p.2 else none := by
  obtain ⟨a, h1, h2⟩ := h
  show (match H q with
    | some (.tup [.ref a, .int c]) => (match H a with
      | some (.tup [.str n, .int x, .int y]) => if (n, x, y) = s then some c else none
      | _ => none)
    | _ => none) = _
  rw [h1]
  show (match H a with
      | some (.tup [.str n, .int x, .int y]) => if (n, x, y) = s then some p.2 else none
      | _ => none) = _
  rw [h2.1]
theorem bigB4 {m : Nat} (h : m ≤ 4) : bigB m ≤ 5201 := by
  obtain rfl | rfl | rfl | rfl | rfl : m = 0 ∨ m = 1 ∨ m = 2 ∨ m = 3 ∨ m = 4 := by omega
  all_goals decide
mutual
theorem ok_asc {N : Int → Prop} {E A : Cell → Prop} : ∀ f : Fo.Form Cell, Fo.Ok N E A f → AscF f
  | .col _, _ => trivial
  | .cel _, _ => trivial
  | .ask k rows o, ⟨_, z, b, d⟩ => ⟨trivial, z, ok_ascR rows b, ok_asc o d⟩
theorem ok_ascR {N : Int → Prop} {E A : Cell → Prop} : ∀ r : Fo.Rows Cell, Fo.OkR N E A r → AscR r
  | .nil, _ => trivial
  | .cons c f t, ⟨_, b, q⟩ => ⟨trivial, ok_asc f b, ok_ascR t q⟩
end
theorem rows_snoc {H : Hp} {p : Addr} {v : V} {c : Int} {f : Fo.Form Cell} (hp : H p = some (.tup [.int c, v])) (hf : FormAt H v f) : ∀ {ws : List V} {ps : List (Int × Fo.Form Cell)}, RowsAt H ws (.of ps) → RowsAt H (ws ++ [.ref p]) (.of (ps ++ [(c, f)]))
  | _, [], .nil => .cons hp hf .nil
  | _, q :: ps, .cons h g t => .cons h g (rows_snoc hp hf (ps := ps) t)
def datA (p : Cell × Int) : PyData := .tuple [datC p.1, .int p.2]
theorem asks_dp {H : Hp} : ∀ {as : List Addr} {ps : List (Cell × Int)}, Asks H as ps → DpAll K H (as.map V.ref) (ps.map datA) ∧ PyData.canLayAll0 (ps.map datA) = true ∧ PyData.depthAll (ps.map datA) ≤ 2
  | _, _, .nil => ⟨.nil, rfl, Nat.zero_le _⟩
  | _, _, .cons (b := p) h t => by
    obtain ⟨a, b, c⟩ := asks_dp t
    obtain ⟨x, hx, hc⟩ := h
    refine ⟨.cons (.tup (SqT.of hx) (.cons (dp_cell hc) (.cons (.int _) .nil))) a, ?_, ?_⟩
    · show ((PyData.canLay0 (datC p.1) && (true && true)) && PyData.canLayAll0 _) = true
      rw [cell_lay hc.2, b]
      rfl
    · show max (PyData.depth (datA p)) (PyData.depthAll _) ≤ 2
      exact Nat.max_le.mpr ⟨Nat.le_of_ble_eq_true rfl, c⟩
theorem asks_nil {H : Hp} {a l : Addr} {qs : List Addr} {ps : List (Cell × Int)} {Q : VK} (hl : SqL K H a (qs.map V.ref)) (r : Asks H qs ps) (h : H l = some (.lst [])) (q : Q (.bl (decide (ps = []))) H) : rEqD K (.ref a) (.ref l) H Q := by
  obtain ⟨h1, h2, h3⟩ := asks_dp (K := K) r
  refine ⟨_, _, .lst hl h1, .lst (SqL.of h) .nil, ?_, rfl, ?_⟩
  · unfold SeqAt.shaped
    rw [Bool.and_eq_true]
    refine ⟨h2, decide_eq_true ?_⟩
    show PyData.depthAll _ + 1 ≤ 64
    omega
  · have e : PyData.eqv (.list (ps.map datA)) (.list []) = decide (ps = []) := by
      cases ps with
      | nil => rfl
      | cons p ps => rfl
    rw [e]
    exact q
/-- reduce at a form whose asked keys are fewer than n, its colours among C -/
def spRed (n : Nat) : Sp := fun vs H Q _ => ∃ (v : V) (f : Fo.Form Cell) (S : List Cell) (C : List Int), vs = [v] ∧ FormAt H v f ∧ Fo.Ok (fun c => c ∈ C) (fun _ => True) (fun k => k ∈ S) f ∧ S.length + 1 ≤ n ∧ C.length ≤ 6 ∧ n ≤ 6 ∧ dpF f ≤ 18 ∧ szF f ≤ 20000 ∧ ∀ v' H', Ex H H' → FormAt H' v' (Fo.redN ltC (n - 1) f) → Q v' H'
set_option maxHeartbeats 8000000 in
theorem c_reduce (T : Txt K mg) : ∀ n : Nat, Cl P w K mg base CX0 (n + 30) "reduce" s_reduce ["form"] (spRed n)
  | 0 => cl_false T.d_reduce fun vs H Q E h => by
    obtain ⟨v, f, S, C, _, _, _, h, _⟩ := h
    omega
  | n + 1 => by
    have ih_reduce := c_reduce T n
    refine cl_of (k := n + 30) T.d_reduce sc_reduce (fun vs H Q E h => ?_) (fun f cdv A outer st H vs Q E hr h => ?_)
    · obtain ⟨v, fo, S, C, rfl, _⟩ := h
      rfl
    · obtain ⟨v, fo, S, C, rfl, hf, ok, hS, hC, h5, h18, hs, q⟩ := h
      have nd := sc_reduce.nd
      refine ⟨_, (pss_cons (ps_set (i := 1) nd rfl (Or.inl rfl) (Lw.pe_cl (c_asked_in T 20) b_asked_in hr (by omega) (by rfl) pass0 (pa_cons (pv 0) pa_nil)))
      (pss_cons (ps_if (pt_cmpR (op_eqD hr.units) (pv 1) (pe_lst pa_nil) (nomark _)) (pss_one (ps_ret (pv 0))) pss_nil)
      (pss_cons (ps_set (i := 3) nd rfl (Or.inr rfl) (pe_callB (Lw.cr_minDt rfl (Lw.u70r hr)) (by rfl) T.b_min bt_min (pa_cons (pe_lc (own := [("key", 8), ("colour", 2)]) (g := gTup K 2 (gCons (gName 8) (gCons (gName 2) (gNil)))) (tt := tYes) rfl nd (pi_list (pv 1)) (L2.blkOk_by (N := N_reduce) (sc := defScope s_reduce) (by decide +kernel)) (fun _ _ _ _ _ => (pg_tup rfl (pgs_cons (pg_name (i := 8) nd rfl (Or.inl rfl)) (pgs_cons (pg_name (i := 2) nd rfl (Or.inl rfl)) pgs_nil)))) (fun _ _ _ _ _ => pts_nil) (fun _ _ _ _ _ => (pv 8))) pa_nil)))
      (pss_cons (ps_set (i := 4) nd rfl (Or.inl rfl) (Lw.pe_cl ih_reduce b_reduce hr (by omega) (by rfl) pass0 (pa_cons (Lw.pe_cl (c_general T 20) b_general hr (by omega) (by rfl) pass0 (pa_cons (pv 0) (pa_cons (pv 3) pa_nil))) pa_nil)))
      (pss_cons (ps_par (i := 5) (j := 6) rfl nd rfl rfl (by decide) rfl rfl (pa_cons (pe_cmpR (op_inD (Lw.u65r hr)) (pv 3) (Lw.pe_cl (c_keys_in T 20) b_keys_in hr (by omega) (by rfl) pass0 (pa_cons (pv 4) pa_nil)) (by rfl)) (pa_cons (pe_lst pa_nil) pa_nil)) (by rfl))
      (pss_cons (ps_for PassesOwn.never rfl (pi_list (pe_callB (cr_sortedSet rfl) (by rfl) T.b_sorted bt_sorted (pa_cons (Lw.pe_scI (own := [("key", 8), ("colour", 2)]) (g := gTup K 2 (gCons (gName 8) (gCons (gName 2) (gNil)))) rfl nd (pi_list (pv 1)) (L2.blkOk_by (N := N_reduce) (sc := defScope s_reduce) (by decide +kernel)) (fun _ _ _ _ _ => (pg_tup rfl (pgs_cons (pg_name (i := 8) nd rfl (Or.inl rfl)) (pgs_cons (pg_name (i := 2) nd rfl (Or.inl rfl)) pgs_nil)))) (fun _ _ _ _ _ => (pts_one (pt_cmpR (op_eqD hr.units : OpR _ _ (rEqD K)) (pv 8) (pv 3) (nomark _)))) (fun _ _ _ _ _ => (pv 2))) pa_nil))) (pg_name (i := 2) nd rfl (Or.inl rfl)) (pss_cons (ps_set (i := 7) nd rfl (Or.inl rfl) (Lw.pe_cl ih_reduce b_reduce hr (by omega) (by rfl) pass0 (pa_cons (Lw.pe_cl (c_put T 20) b_put hr (by omega) (by rfl) pass0 (pa_cons (pv 0) (pa_cons (pv 3) (pa_cons (pv 2) pa_nil)))) pa_nil)))
      (pss_one (ps_if (pt_cmpR (op_neD hr.units) (pv 7) (pe_ifExp (pt_val (pv 5)) (Lw.pe_cl ih_reduce b_reduce hr (by omega) (by rfl) pass0 (pa_cons (Lw.pe_cl (c_put T 20) b_put hr (by omega) (by rfl) pass0 (pa_cons (pv 4) (pa_cons (pv 3) (pa_cons (pv 2) pa_nil)))) pa_nil)) (pv 4)) (nomark _)) (pss_one (ps_expr (pe_bm PySem.F.plainAttrs_list PySem.F.slot_list_append PySem.F.type_list_append mt_append (pv 6) (pa_cons (pe_tup (pa_cons (pv 2) (pa_cons (pv 7) pa_nil))) pa_nil)))) pss_nil))))
      (pss_one (ps_ret (pe_ifExp (pt_truth (pv 6) (by intro _; rfl)) (pe_tup (pa_cons pe_str (pa_cons (pv 3) (pa_cons (pe_callTy (Lw.cr_tupF) (by rfl) T.b_tuple bt_tuple (pa_cons (pv 6) pa_nil)) (pa_cons (pv 4) pa_nil))))) (pv 4)))))))))), ?_⟩
      repeat fail "st"
      refine ⟨_, _, rfl, hf, by omega, by omega, fun la aq H1 n1 e1 h1 c1 => ?_⟩
      repeat fail "st"
      intro l0 n_l0
      generalize hh : upd _ l0 _ = H_l0
      have e_l0 := newEx hh n_l0
      have h_l0 := newAt hh
      clear hh
      refine asks_nil (SqL.of (e_l0 _ _ h1)) (c1.up e_l0) h_l0 ?_
      repeat fail "st"
      refine ifD (fun hb => ?_) (fun hb => ?_)
      · repeat fail "st"
        refine q v _ (e1.trans e_l0) ?_
        rw [Fo.red_none ltC (Fo.least_none ltC hb)]
        exact hf.up (e1.trans e_l0)
      · have hf := hf.up (e1.trans e_l0)
        have ca := c1.up e_l0
        have hla := e_l0 _ _ h1
        have lenA : aq.length ≤ 20000 := by
          rw [Paired.length ca]
          exact Nat.le_trans (asked_len fo) hs
        have eA := e1.trans e_l0
        clear c1 h1 h_l0 e1 e_l0 n1
        repeat fail "st"
        intro D1 hD1
        refine lcL (All (fun i y H' => ∃ a p, y = V.ref a ∧ (Fo.askedIn fo)[i]? = some p ∧ CellAt H' a p.1)) (all_mono fun i y H H' e ⟨a, p, e1, e2, e3⟩ => ⟨a, p, e1, e2, e a _ (fun xs z => by cases z) e3.1, e3.2⟩) hD1 (SqL.of hla) (by rw [List.length_map]; omega) (fun i x hi G eG Q1 Q2 q1 q2 => ?_) (fun G1 os eG hl hDG hp => ?_)
        · obtain ⟨qa, p, rfl, hpi, a, hq, hc⟩ := asks_get ca hi
          have hq := eG _ _ hq
          repeat fail "st"
          exact q1 _ _ (Ex.refl _) ⟨_, rfl, a, p, rfl, hpi, hc.up eG⟩
        obtain ⟨ys, ey, ly, hy⟩ := All.end hp
        rw [ey] at hDG
        rw [hl, List.length_map, Paired.length ca] at ly
        have hcell : ∀ y ∈ ys, ∃ a p, y = V.ref a ∧ p ∈ Fo.askedIn fo ∧ CellAt G1 a p.1 := fun y m => by
          obtain ⟨i, hi, e⟩ := List.getElem_of_mem m
          obtain ⟨a, p, e1, e2, e3⟩ := hy i y (by rw [List.getElem?_eq_getElem hi, e])
          exact ⟨a, p, e1, List.mem_of_getElem? e2, e3⟩
        have hall : ∀ p ∈ Fo.askedIn fo, ∃ a, V.ref a ∈ ys ∧ CellAt G1 a p.1 := fun p m => by
          obtain ⟨i, hi, e⟩ := List.getElem_of_mem m
          have hi' : i < ys.length := by omega
          obtain ⟨a, p', e1, e2, e3⟩ := hy i ys[i] (List.getElem?_eq_getElem hi')
          rw [List.getElem?_eq_getElem hi, e] at e2
          obtain rfl := Option.some.inj e2
          exact ⟨a, by rw [← e1]; exact List.getElem_mem hi', e3⟩
        refine ⟨D1, ys, encC G1, rfl, SqL.of hDG, ?_, fun y m => ?_, fun y my z mz => ?_, fun y my hmin => ?_⟩
        · intro z
          rw [z] at ly
          exact hb (List.length_eq_zero_iff.mp ly.symm)
        · obtain ⟨a, p, rfl, _, hc⟩ := hcell y m
          rw [encC_at hc]
          exact ⟨dp_cell hc, Nat.le_of_ble_eq_true rfl, by intro z; cases z⟩
        · obtain ⟨a, p, rfl, _, hc⟩ := hcell y my
          obtain ⟨b, r, rfl, _, hd⟩ := hcell z mz
          rw [encC_at hc, encC_at hd]
          rfl
        obtain ⟨a, p, rfl, mp, hc⟩ := hcell y my
        obtain ⟨s, c0⟩ := p
        have hmin' : ∀ r ∈ Fo.askedIn fo, ltC r.1 s = false := fun r mr => by
          obtain ⟨b, mb, hd⟩ := hall r mr
          have := hmin _ mb
          rw [encC_at hc, encC_at hd] at this
          exact this
        have lea : Fo.least ltC fo = some s := Fo.least_is ltC ⟨c0, mp⟩ hmin' fun r mr => by
          by_cases h : ltC s r.1 = true
          · exact .inr h
          · exact .inl (ltC_total (hmin' r mr) (by simpa using h))
        have hf := hf.up eG
        have ca := ca.up eG
        have hla := eG _ _ hla
        have eA := eA.trans eG
        clear hmin hall hcell hy hDG hp my eG
        obtain ⟨m, rfl⟩ : ∃ m, n = m + 1 := ⟨n - 1, by
          have : S.length + 1 ≤ n + 1 := hS
          have := List.length_pos_of_mem (Fo.Ok.asked fo ok _ mp).1
          omega⟩
        have sS : s ∈ S := (Fo.Ok.asked fo ok _ mp).1
        have hE : (S.erase s).length ≤ m := by
          rw [List.length_erase_of_mem sS]
          omega
        have memE : ∀ k, k ∈ S ∧ k ≠ s → k ∈ S.erase s := fun k h => (List.mem_erase_of_ne h.2).mpr h.1
        have okg := Fo.Ok.mono memE _ (Fo.Ok.gen fo ok)
        repeat fail "st"
        refine ⟨_, _, _, _, rfl, hf, hc, by omega, by omega, fun v1 H1 e1 hg => ?_⟩
        repeat fail "st"
        have q1 := dp_gen s fo
        have q2 := sz_gen s fo
        refine ⟨v1, Fo.general s fo, S.erase s, C, rfl, hg, okg, by omega, hC, by omega, by omega, by omega, fun v2 H2 e2 hr2 => ?_⟩
        replace hr2 : FormAt H2 v2 (Fo.redN ltC m (Fo.general s fo)) := hr2
        obtain ⟨z1, z2⟩ := red_size ltC hC m (Fo.general s fo) (S.erase s) okg hE
        have z3 := bigB4 (m := m) (by omega)
        have okr := Fo.red_ok ltC m _ _ okg
        repeat fail "st"
        refine ⟨v2, _, rfl, hr2, by omega, by omega, fun lk ak H3 n3 e3 h3 c3 => ?_⟩
        have eB := (e1.trans e2).trans e3
        refine in_cells (hc.up eB) h3 c3 ?_
        generalize hnm : ((Fo.keysIn (Fo.redN ltC m (Fo.general s fo))).any fun k => decide (k = s)) = nm
        have hr3 := hr2.up e3
        have hf := hf.up eB
        have ca := ca.up eB
        have hla := eB _ _ hla
        have hc := hc.up eB
        have eA := eA.trans eB
        clear hr2 hg c3 h3 e1 e2 e3 eB n3
        repeat fail "st"
        intro lr n_lr
        generalize hh : upd _ lr _ = H_lr
        have e_lr := newEx hh n_lr
        have h_lr := newAt hh
        clear hh
        have nlr := ex_no eA n_lr
        have hr3 := hr3.up e_lr
        have hf := hf.up e_lr
        have ca := ca.up e_lr
        have hla := e_lr _ _ hla
        have hc := hc.up e_lr
        have eA := eA.trans e_lr
        repeat fail "st"
        intro D2 hD2
        refine scLf (colA H_lr s) C (by omega) hD2 (SqL.of hla) (fun x mx k hx => ?_) (fun i x hi G eG Q1 Q2 q3 q4 => ?_) (fun G2 Sf ds eG hS ndd hSf hds hlen => ?_)
        · obtain ⟨i, hi, e⟩ := List.getElem_of_mem mx
          obtain ⟨qa, p, rfl, hpi, hq⟩ := asks_get ca (by rw [List.getElem?_eq_getElem hi, e])
          rw [colA_at hq] at hx
          split at hx
          · cases hx
            exact (Fo.Ok.asked fo ok _ (List.mem_of_getElem? hpi)).2
          · cases hx
        · obtain ⟨qa, p, rfl, hpi, hq⟩ := asks_get ca hi
          have hcol := colA_at (s := s) hq
          obtain ⟨ap, hq1, hq2⟩ := hq
          have hq1 := eG _ _ hq1
          have hq2 := hq2.up eG
          have hcG := hc.up eG
          repeat fail "st"
          refine eq_cell hq2 hcG ?_
          repeat fail "st"
          by_cases hps : p.1 = s
          · rw [show decide (p.1 = (s, c0).1) = true from decide_eq_true hps]
            repeat fail "st"
            exact q3 _ _ (by rw [hcol, if_pos hps]) (Ex.refl _)
          · rw [show decide (p.1 = (s, c0).1) = false from decide_eq_false hps]
            exact q4 _ (by rw [hcol, if_neg hps]) (Ex.refl _)
        have hn : ∀ k, k ∈ ds ↔ k ∈ Fo.named fo s := fun k => by
          rw [hds, Fo.mem_named]
          constructor
          · rintro ⟨x, mx, e⟩
            obtain ⟨i, hi, ei⟩ := List.getElem_of_mem mx
            obtain ⟨qa, p, rfl, hpi, hq⟩ := asks_get ca (by rw [List.getElem?_eq_getElem hi, ei])
            rw [colA_at hq] at e
            split at e
            · rename_i hps
              cases e
              rw [← hps]
              exact List.mem_of_getElem? hpi
            · cases e
          · intro m
            obtain ⟨i, hi, ei⟩ := List.getElem_of_mem m
            have hi' : i < (aq.map V.ref).length := by
              rw [List.length_map, Paired.length ca]
              exact hi
            obtain ⟨qa, p, e1, hpi, hq⟩ := asks_get ca (List.getElem?_eq_getElem hi')
            rw [List.getElem?_eq_getElem hi, ei] at hpi
            obtain rfl := Option.some.inj hpi
            refine ⟨_, List.getElem_mem hi', ?_⟩
            rw [e1, colA_at hq, if_pos rfl]
        refine ⟨D2, Sf, ds.length, rfl, hS, by omega, fun ns pn hns hk hl2 np => ?_⟩
        obtain rfl : ns = Fo.named fo s := by
          have := Fo.filter_sub (G := fun c : Int => some c) hns (Fo.named_lt fo s) (fun c mc => (hk c).mpr ((hSf c).mpr ((hn c).mpr mc))) (fun c mc nc => absurd ((hn c).mp ((hSf c).mp ((hk c).mp mc))) nc)
          rwa [show (fun c : Int => some c) = some from rfl, List.filterMap_some, List.filterMap_some] at this
        have npl : pn ≠ lr := (ne_of_none (eG _ _ h_lr) np).symm
        generalize hh : upd _ pn _ = H_pn
        have e_pn := newEx hh np
        have h_pn := newAt hh
        clear hh
        have eC := eG.trans e_pn
        have hr3 := hr3.up eC
        have hf := hf.up eC
        have hc := hc.up eC
        have h_lr := eC _ _ h_lr
        have eA := eA.trans eC
        clear hS hds hSf hn hk hl2 ca hla eG e_pn
        repeat fail "st"
        refine for_list (xs := (Fo.named fo s).map V.int) (fun i σ H' => ∃ y2 y7 y8 ws, σ = [some v, some (.ref la), y2, some (.ref a), some v2, some (.bl nm), some (.ref lr), y7, y8] ∧ H' lr = some (.lst ws) ∧
          RowsAt H' ws (.of (((Fo.named fo s).take i).filterMap fun c => if Fo.redN ltC m (Fo.put s c fo) = (if nm = true then Fo.redN ltC m (Fo.put s c (Fo.redN ltC m (Fo.general s fo))) else Fo.redN ltC m (Fo.general s fo)) then none else some (c, Fo.redN ltC m (Fo.put s c fo)))) ∧ But lr H_pn H') ⟨_, _, _, _, rfl, h_lr, .nil, But.refl⟩ ?_ ?_ ?_
        · rintro _ _ H' _ ⟨y2, y7, y8, ws, rfl, hl, hw, e⟩
          exact SqL.of (e _ _ npl h_pn)
        · rintro i x _ H' hx ⟨y2, y7, y8, ws, rfl, hl, hw, e⟩
          rw [List.getElem?_map] at hx
          obtain ⟨c, hci, rfl⟩ := Option.map_eq_some_iff.mp hx
          have mc := List.mem_of_getElem? hci
          have hN := (Fo.Ok.asked fo ok _ (Fo.mem_named.mp mc)).2
          have hf4 := hf.but e h_lr
          have hc4 := hc.but e h_lr
          have hr4 := hr3.but e h_lr
          have b1 := dp_put s c fo
          have b2 := sz_put s c fo
          repeat fail "st"
          refine ⟨_, _, _, _, _, rfl, hf4, hc4, ok_asc _ ok, by omega, by omega, by omega, fun v3 H4 e4 hp4 => ?_⟩
          repeat fail "st"
          refine ⟨v3, Fo.put s c fo, S.erase s, C, rfl, hp4, Fo.Ok.mono memE _ (Fo.Ok.put hN fo ok), by omega, hC, by omega, by omega, by omega, fun v4 H5 e5 hr5 => ?_⟩
          replace hr5 : FormAt H5 v4 (Fo.redN ltC m (Fo.put s c fo)) := hr5
          obtain ⟨x1, x2⟩ := red_size ltC hC m (Fo.put s c fo) (S.erase s) (Fo.Ok.mono memE _ (Fo.Ok.put hN fo ok)) hE
          repeat fail "st"
          have hr5b := hr4.up (e4.trans e5)
          have hc5 := hc4.up (e4.trans e5)
          cases nm with
          | false =>
            repeat fail "st"
            refine ne_form (hr5.up (Ex.refl _)) (hr5b.up (Ex.refl _)) (by omega) (by omega) ?_
            have hl6 := (Ex.refl _) _ _ (e5 _ _ (e4 _ _ hl))
            have eB := But.up e (e4.trans (e5.trans (Ex.refl _)))
            have hw6 := RowsAt.up (e4.trans (e5.trans (Ex.refl _))) hw
            have l5 : ws.length ≤ 6 := by
              rw [rows_len hw, Fo.Rows.list_of]
              refine Nat.le_trans (List.length_filterMap_le _ _) (Nat.le_trans (List.length_take_le' _ _) ?_)
              exact Nat.le_trans (nodup_len ((Fo.named_lt fo s).imp fun z => Int.ne_of_lt z) fun c mc => (Fo.Ok.asked fo ok _ (Fo.mem_named.mp mc)).2) hC
            by_cases heq : Fo.redN ltC m (Fo.put s c fo) = Fo.redN ltC m (Fo.general s fo)
            · rw [decide_eq_true heq]
              repeat fail "st"
              refine ⟨_, _, _, ws, rfl, hl6, ?_, eB⟩
              rw [List.take_add_one, hci, List.filterMap_append, show List.filterMap _ (some c).toList = [] from by simp [heq], List.append_nil]
              exact hw6
            · rw [decide_eq_false heq]
              repeat fail "st"
              refine ⟨.inl ⟨rfl, _, SqL.of hl6⟩, ?_⟩
              repeat fail "st"
              intro tp n_tp
              generalize hh : upd _ tp _ = H_tp
              have e_tp := newEx hh n_tp
              have h_tp := newAt hh
              clear hh
              have hl7 := e_tp _ _ hl6
              refine ⟨_, _, _, rfl, rfl, hl7, ?_, ?_⟩
              · refine Nat.lt_of_lt_of_le (m := 7) (by omega) (Nat.le_trans (Nat.le_of_ble_eq_true rfl) Lw.line_ge)
              refine ⟨_, _, _, ws ++ [.ref tp], rfl, upd_same, ?_, (But.up eB e_tp).mut⟩
              rw [List.take_add_one, hci, List.filterMap_append, show List.filterMap _ (some c).toList = [(c, Fo.redN ltC m (Fo.put s c fo))] from by simp [heq]]
              exact RowsAt.but (mutBut rfl) hl7 (rows_snoc h_tp ((hr5.up (Ex.refl _)).up e_tp) (RowsAt.up e_tp hw6))
          | true =>
            have c1 := dp_put s c (Fo.redN ltC m (Fo.general s fo))
            have c2 := sz_put s c (Fo.redN ltC m (Fo.general s fo))
            have okpr := Fo.Ok.mono (fun k h => h.1) _ (Fo.Ok.put (s := s) hN _ okr)
            repeat fail "st"
            refine ⟨_, _, _, _, _, rfl, hr5b, hc5, ok_asc _ okr, by omega, by omega, by omega, fun v5 H6 e6 hp6 => ?_⟩
            repeat fail "st"
            refine ⟨v5, Fo.put s c (Fo.redN ltC m (Fo.general s fo)), S.erase s, C, rfl, hp6, okpr, by omega, hC, by omega, by omega, by omega, fun v6 H7 e7 hr7 => ?_⟩
            replace hr7 : FormAt H7 v6 (Fo.redN ltC m (Fo.put s c (Fo.redN ltC m (Fo.general s fo)))) := hr7
            obtain ⟨x3, x4⟩ := red_size ltC hC m (Fo.put s c (Fo.redN ltC m (Fo.general s fo))) (S.erase s) okpr hE
            have e67 := e6.trans e7
            repeat fail "st"
            refine ne_form (hr5.up e67) hr7 (by omega) (by omega) ?_
            have hl6 := e67 _ _ (e5 _ _ (e4 _ _ hl))
            have eB := But.up e (e4.trans (e5.trans e67))
            have hw6 := RowsAt.up (e4.trans (e5.trans e67)) hw
            have l5 : ws.length ≤ 6 := by
              rw [rows_len hw, Fo.Rows.list_of]
              refine Nat.le_trans (List.length_filterMap_le _ _) (Nat.le_trans (List.length_take_le' _ _) ?_)
              exact Nat.le_trans (nodup_len ((Fo.named_lt fo s).imp fun z => Int.ne_of_lt z) fun c mc => (Fo.Ok.asked fo ok _ (Fo.mem_named.mp mc)).2) hC
            by_cases heq : Fo.redN ltC m (Fo.put s c fo) = Fo.redN ltC m (Fo.put s c (Fo.redN ltC m (Fo.general s fo)))
            · rw [decide_eq_true heq]
              repeat fail "st"
              refine ⟨_, _, _, ws, rfl, hl6, ?_, eB⟩
              rw [List.take_add_one, hci, List.filterMap_append, show List.filterMap _ (some c).toList = [] from by simp [heq], List.append_nil]
              exact hw6
            · rw [decide_eq_false heq]
              repeat fail "st"
              refine ⟨.inl ⟨rfl, _, SqL.of hl6⟩, ?_⟩
              repeat fail "st"
              intro tp n_tp
              generalize hh : upd _ tp _ = H_tp
              have e_tp := newEx hh n_tp
              have h_tp := newAt hh
              clear hh
              have hl7 := e_tp _ _ hl6
              refine ⟨_, _, _, rfl, rfl, hl7, ?_, ?_⟩
              · refine Nat.lt_of_lt_of_le (m := 7) (by omega) (Nat.le_trans (Nat.le_of_ble_eq_true rfl) Lw.line_ge)
              refine ⟨_, _, _, ws ++ [.ref tp], rfl, upd_same, ?_, (But.up eB e_tp).mut⟩
              rw [List.take_add_one, hci, List.filterMap_append, show List.filterMap _ (some c).toList = [(c, Fo.redN ltC m (Fo.put s c fo))] from by simp [heq]]
              exact RowsAt.but (mutBut rfl) hl7 (rows_snoc h_tp ((hr5.up e67).up e_tp) (RowsAt.up e_tp hw6))
        · rintro _ H' ⟨y2, y7, y8, ws, rfl, hl, hw, e⟩
          rw [List.length_map, List.take_length] at hw
          have er : Fo.redN ltC (m + 1) fo = (if Fo.redRows ltC m fo s (Fo.redN ltC m (Fo.general s fo)) = [] then Fo.redN ltC m (Fo.general s fo) else .ask s (.of (Fo.redRows ltC m fo s (Fo.redN ltC m (Fo.general s fo)))) (Fo.redN ltC m (Fo.general s fo))) := Fo.red_rows ltC lea
          rw [Fo.redRows_step, hnm] at er
          generalize hrr : ((Fo.named fo s).filterMap fun c => if Fo.redN ltC m (Fo.put s c fo) = (if nm = true then Fo.redN ltC m (Fo.put s c (Fo.redN ltC m (Fo.general s fo))) else Fo.redN ltC m (Fo.general s fo)) then none else some (c, Fo.redN ltC m (Fo.put s c fo))) = rr at hw er
          have hr4 := hr3.but e h_lr
          have hc4 := hc.but e h_lr
          repeat fail "st"
          cases rr with
          | nil =>
            obtain rfl : ws = [] := by
              have := rows_len hw
              exact List.length_eq_zero_iff.mp this
            refine ⟨false, .inl ⟨[], SqL.of hl, rfl⟩, ?_⟩
            repeat fail "st"
            refine q _ _ (But.ex eA nlr e) ?_
            show FormAt H' v2 (Fo.redN ltC (m + 1) fo)
            rw [er, if_pos rfl]
            exact hr4
          | cons r0 rt =>
            have wne : (!ws.isEmpty) = true := by
              have := rows_len hw
              cases ws with
              | nil => cases this
              | cons x xs => rfl
            refine ⟨true, .inl ⟨ws, SqL.of hl, wne.symm⟩, ?_⟩
            repeat fail "st"
            intro rl ob n_r hob
            generalize hh : upd _ rl _ = H_r
            have e_r := newEx hh n_r
            have h_r := newAt hh
            clear hh
            repeat fail "st"
            intro fx n_fx
            generalize hh : upd _ fx _ = H_fx
            have e_fx := newEx hh n_fx
            have h_fx := newAt hh
            clear hh
            refine q _ _ ((But.ex eA nlr e).trans (e_r.trans e_fx)) ?_
            show FormAt H_fx (.ref fx) (Fo.redN ltC (m + 1) fo)
            rw [er, if_neg (by intro z; cases z)]
            exact .ask h_fx (hc4.up (e_r.trans e_fx)) ⟨ob, hob, e_fx _ _ h_r⟩ (RowsAt.up (e_r.trans e_fx) hw) (hr4.up (e_r.trans e_fx))
end

end K45
namespace K45
open PySem PySem.Spec PyProof.Rows L2 Evl Lw
section
variable {P : Program} {w : World} {K : PySem.W.Frag} {mg : Str → Option Value} {base : Heap}
def VDs.of : List VD → VDs
  | [] => .nil
  | d :: t => .cons d (.of t)
theorem VDs.list_of : ∀ l : List VD, (VDs.of l).list = l
  | [] => rfl
  | d :: t => by show d :: (VDs.of t).list = _; rw [VDs.list_of t]
theorem VDs.of_list : ∀ l : VDs, VDs.of l.list = l
  | .nil => rfl
  | .cons d t => by show VDs.cons d (VDs.of t.list) = _; rw [VDs.of_list t]
def isT : VD → Bool
  | .tup _ => true
  | _ => false
/-- whether the first is a tuple -/
def firstT : VDs → Bool
  | .cons d _ => isT d
  | .nil => false
mutual
/-- a value all tuples of which are known -/
inductive VTu (H : Hp) : V → VD → Prop
  | non : VTu H .non .non
  | bl (b : Bool) : VTu H (.bl b) (.bl b)
  | int (i : Int) : VTu H (.int i) (.int i)
  | str (s : Str) : VTu H (.str s) (.str s)
  | tup {t : Addr} {xs : List V} {ds : VDs} : TF (firstT ds) H t xs → VsTu H xs ds → VTu H (.ref t) (.tup ds)
  | odd {v : V} {n : String} : Kd H v n → n = "list" ∨ n = "dict" → VTu H v (.odd n)
inductive VsTu (H : Hp) : List V → VDs → Prop
  | nil : VsTu H [] .nil
  | cons {v : V} {vs : List V} {d : VD} {ds : VDs} : VTu H v d → VsTu H vs ds → VsTu H (v :: vs) (.cons d ds)
end
mutual
theorem VTu.up {H H' : Hp} (e : Ex H H') : ∀ {v : V} {d : VD}, VTu H v d → VTu H' v d
  | _, _, .non => .non
  | _, _, .bl b => .bl b
  | _, _, .int i => .int i
  | _, _, .str s => .str s
  | _, _, .tup h t => .tup (h.up e) (VsTu.up e t)
  | _, _, .odd k h => .odd (Kd.up e k) h
theorem VsTu.up {H H' : Hp} (e : Ex H H') : ∀ {vs : List V} {ds : VDs}, VsTu H vs ds → VsTu H' vs ds
  | _, _, .nil => .nil
  | _, _, .cons h t => .cons (VTu.up e h) (VsTu.up e t)
end
theorem TF.at {fz : Bool} {H : Hp} {t : Addr} {xs : List V} (h : TF fz H t xs) : TupAt H t xs := by
  obtain ⟨o, d, h⟩ := h
  cases fz with
  | true => exact .inr ⟨o, h⟩
  | false => exact .inl h
mutual
theorem VTu.vat {H : Hp} : ∀ {v : V} {d : VD}, VTu H v d → VAt H v d
  | _, _, .non => .non
  | _, _, .bl b => .bl b
  | _, _, .int i => .int i
  | _, _, .str s => .str s
  | _, _, .tup h t => .tup (TF.at h) (VsTu.vat t)
  | _, _, .odd k h => .odd k h
theorem VsTu.vat {H : Hp} : ∀ {vs : List V} {ds : VDs}, VsTu H vs ds → VsAt H vs ds
  | _, _, .nil => .nil
  | _, _, .cons h t => .cons (VTu.vat h) (VsTu.vat t)
end
theorem vst_pr {H : Hp} : ∀ {vs : List V} {ds : VDs}, VsTu H vs ds → Paired (VTu H) vs ds.list
  | _, _, .nil => .nil
  | _, _, .cons h t => .cons h (vst_pr t)
theorem vst_of {H : Hp} : ∀ {vs : List V} {l : List VD}, Paired (VTu H) vs l → VsTu H vs (.of l)
  | _, _, .nil => .nil
  | _, _, .cons h t => .cons h (vst_of t)
mutual
def szV : VD → Nat
  | .tup ds => 1 + szVs ds
  | _ => 1
def szVs : VDs → Nat
  | .nil => 0
  | .cons d ds => szV d + szVs ds
end
theorem szV_pos (d : VD) : 1 ≤ szV d := by
  cases d with
  | tup ds => show 1 ≤ 1 + _; omega
  | _ => exact Nat.le_refl _
theorem szVs_len : ∀ ds : VDs, ds.list.length ≤ szVs ds
  | .nil => Nat.zero_le _
  | .cons d t => by
    have := szVs_len t
    have := szV_pos d
    show t.list.length + 1 ≤ szV d + szVs t
    omega
mutual
theorem wd_sz : ∀ d : VD, wdV d ≤ szV d
  | .tup ds => by
    have := szVs_len ds
    have := wds_sz ds
    show max ds.list.length (wdVs ds) ≤ 1 + szVs ds
    omega
  | .non => Nat.zero_le _
  | .bl _ => Nat.zero_le _
  | .int _ => Nat.zero_le _
  | .str _ => Nat.zero_le _
  | .odd _ => Nat.zero_le _
theorem wds_sz : ∀ ds : VDs, wdVs ds ≤ szVs ds
  | .nil => Nat.zero_le _
  | .cons d t => by
    have := wd_sz d
    have := wds_sz t
    show max (wdV d) (wdVs t) ≤ szV d + szVs t
    omega
end
/-- what a tuple tells by itself: a cell, or a colour -/
def own : VDs → Option (Cell ⊕ Int)
  | .cons (.str n) (.cons (.int x) (.cons (.int y) .nil)) => some (.inl (n, x, y))
  | .cons (.int c) (.cons _ .nil) => some (.inr c)
  | .cons (.str _) (.cons (.int c) .nil) => some (.inr c)
  | _ => none
mutual
def allV : VD → List (Cell ⊕ Int)
  | .tup ds => (own ds).toList ++ allVs ds
  | _ => []
def allVs : VDs → List (Cell ⊕ Int)
  | .nil => []
  | .cons d t => allV d ++ allVs t
end
theorem allVs_mem {x : Cell ⊕ Int} : ∀ {ds : VDs}, x ∈ allVs ds ↔ ∃ d ∈ ds.list, x ∈ allV d
  | .nil => by
    constructor
    · intro h; cases h
    · rintro ⟨d, m, _⟩; cases m
  | .cons d t => by
    have ih := allVs_mem (x := x) (ds := t)
    constructor
    · intro h
      rcases List.mem_append.mp (show x ∈ allV d ++ allVs t from h) with h | h
      · exact ⟨d, List.mem_cons_self, h⟩
      · obtain ⟨e, m, h⟩ := ih.mp h
        exact ⟨e, List.mem_cons_of_mem _ m, h⟩
    · rintro ⟨e, m, h⟩
      refine List.mem_append.mpr ?_
      rcases List.mem_cons.mp m with rfl | m
      · exact .inl h
      · exact .inr (ih.mpr ⟨e, m, h⟩)
theorem dpVs_le {n : Nat} : ∀ {ds : VDs}, dpVs ds ≤ n ↔ ∀ d ∈ ds.list, dpV d ≤ n
  | .nil => ⟨fun _ d m => (nomatch m), fun _ => Nat.zero_le _⟩
  | .cons d t => by
    have ih := dpVs_le (n := n) (ds := t)
    constructor
    · intro h e m
      exact Nat.le_trans (dpVs_mem m) h
    · intro h
      show max (dpV d) (dpVs t) ≤ n
      exact Nat.max_le.mpr ⟨h d List.mem_cons_self, ih.mpr fun e m => h e (List.mem_cons_of_mem _ m)⟩
theorem szVs_app : ∀ a b : List VD, szVs (.of (a ++ b)) = szVs (.of a) + szVs (.of b)
  | [], b => by rw [List.nil_append]; exact (Nat.zero_add _).symm
  | d :: a, b => by
    show szV d + szVs (.of (a ++ b)) = szV d + szVs (.of a) + szVs (.of b)
    rw [szVs_app a b]
    omega
theorem szVs_rev : ∀ a : List VD, szVs (.of a.reverse) = szVs (.of a)
  | [] => rfl
  | d :: a => by
    rw [List.reverse_cons, szVs_app, szVs_rev a]
    show _ + (szV d + 0) = szV d + _
    omega
/-- what one exchange may bring -/
structure Near (n : Nat) (d d' : VD) : Prop where
  dp : dpV d' ≤ max (dpV d + 1) (n + 3)
  sz : szV d' ≤ 2 * szV d + 6
  all : ∃ x, ∀ y ∈ allV d', y = x ∨ y ∈ allV d
theorem near_atom {n : Nat} {d d' : VD} (h : isT d' = false) : Near n d d' := by
  have e : dpV d' = 1 ∧ szV d' = 1 ∧ allV d' = [] := by
    cases d' with
    | tup ds => cases h
    | _ => exact ⟨rfl, rfl, rfl⟩
  obtain ⟨e1, e2, e3⟩ := e
  have := szV_pos d
  refine ⟨by omega, by omega, .inr 0, fun y m => ?_⟩
  rw [e3] at m
  cases m
theorem opt_one {α : Type} (o : Option α) (z : α) : ∃ x, ∀ y ∈ o.toList, y = x := by
  cases o with
  | none => exact ⟨z, fun y m => nomatch m⟩
  | some x => exact ⟨x, fun y m => by simpa using m⟩
/-- a tuple of the same items, some left out, some twice, and atoms -/
theorem near_list {n : Nat} {ds : VDs} {l : List VD} (h : ∀ d ∈ l, d ∈ ds.list ∨ isT d = false) (hs : szVs (.of l) ≤ 2 * szVs ds + 6) : Near n (.tup ds) (.tup (.of l)) := by
  refine ⟨?_, ?_, ?_⟩
  · have : dpVs (.of l) ≤ max (dpVs ds) 1 := dpVs_le.mpr fun d m => by
      rw [VDs.list_of] at m
      rcases h d m with m | e
      · have := dpVs_mem m
        omega
      · have : dpV d = 1 := by
          cases d with
          | tup ds => cases e
          | _ => rfl
        omega
    show 1 + dpVs (.of l) ≤ max (1 + dpVs ds + 1) (n + 3)
    omega
  · show 1 + szVs (.of l) ≤ 2 * (1 + szVs ds) + 6
    omega
  · obtain ⟨x, hx⟩ := opt_one (own (.of l)) (.inr 0)
    refine ⟨x, fun y m => ?_⟩
    rcases List.mem_append.mp (show y ∈ (own (.of l)).toList ++ allVs (.of l) from m) with m | m
    · exact .inl (hx y m)
    · right
      obtain ⟨d, md, m⟩ := allVs_mem.mp m
      rw [VDs.list_of] at md
      rcases h d md with md | e
      · exact List.mem_append.mpr (.inr (allVs_mem.mpr ⟨d, md, m⟩))
      · cases d with
        | tup ds => cases e
        | _ => cases m
theorem own_set {a b : List VD} {e' : VD} (t : isT e' = true) : ∀ y ∈ (own (.of (a ++ e' :: b))).toList, ∃ c, a = [.int c] ∧ b = [] ∧ y = .inr c := by
  cases e' with
  | tup ds =>
    intro y m
    match a, b with
    | [], [] => cases m
    | [], [_] => cases m
    | [], [_, _] => cases m
    | [], _ :: _ :: _ :: _ => cases m
    | [.int c], [] => exact ⟨c, rfl, rfl, by simpa [own, VDs.of] using m⟩
    | [.str c], [] => cases m
    | [.non], [] => cases m
    | [.bl _], [] => cases m
    | [.odd _], [] => cases m
    | [.tup _], [] => cases m
    | [.int c], [_] => cases m
    | [.str c], [_] => cases m
    | [.non], [_] => cases m
    | [.bl _], [_] => cases m
    | [.odd _], [_] => cases m
    | [.tup _], [_] => cases m
    | [.int c], _ :: _ :: _ => cases m
    | [.str c], _ :: _ :: _ => cases m
    | [.non], _ :: _ :: _ => cases m
    | [.bl _], _ :: _ :: _ => cases m
    | [.odd _], _ :: _ :: _ => cases m
    | [.tup _], _ :: _ :: _ => cases m
    | x :: z :: u :: a, b => revert m; cases x <;> cases z <;> cases u <;> cases a <;> intro m <;> cases m
    | [x, z], b => revert m; cases x <;> cases z <;> cases b <;> intro m <;> cases m
  | _ => cases t
/-- one item exchanged -/
theorem near_set {n : Nat} {a b : List VD} {e e' : VD} (h : Near n e e') : Near (n + 1) (.tup (.of (a ++ e :: b))) (.tup (.of (a ++ e' :: b))) := by
  have zs : ∀ x : VD, szVs (.of (a ++ x :: b)) = szVs (.of a) + (szV x + szVs (.of b)) := fun x => szVs_app a (x :: b)
  refine ⟨?_, ?_, ?_⟩
  · have de : dpV e ≤ dpVs (.of (a ++ e :: b)) := dpVs_mem (by rw [VDs.list_of]; simp)
    have h1 := h.dp
    have : dpVs (.of (a ++ e' :: b)) ≤ max (dpVs (.of (a ++ e :: b)) + 1) (n + 3) := dpVs_le.mpr fun d m => by
      rw [VDs.list_of] at m
      rcases List.mem_append.mp m with m | m
      · have : dpV d ≤ dpVs (.of (a ++ e :: b)) := dpVs_mem (by rw [VDs.list_of]; exact List.mem_append.mpr (.inl m))
        omega
      · rcases List.mem_cons.mp m with rfl | m
        · omega
        · have : dpV d ≤ dpVs (.of (a ++ e :: b)) := dpVs_mem (by rw [VDs.list_of]; exact List.mem_append.mpr (.inr (List.mem_cons_of_mem _ m)))
          omega
    show 1 + dpVs (.of (a ++ e' :: b)) ≤ max (1 + dpVs (.of (a ++ e :: b)) + 1) (n + 1 + 3)
    omega
  · have h2 := h.sz
    show 1 + szVs (.of (a ++ e' :: b)) ≤ 2 * (1 + szVs (.of (a ++ e :: b))) + 6
    rw [zs, zs]
    omega
  · by_cases t : isT e' = true
    · obtain ⟨x, hx⟩ := h.all
      refine ⟨x, fun y m => ?_⟩
      rcases List.mem_append.mp (show y ∈ (own (.of (a ++ e' :: b))).toList ++ allVs (.of (a ++ e' :: b)) from m) with m | m
      · obtain ⟨c, rfl, rfl, rfl⟩ := own_set t y m
        exact .inr (List.mem_append.mpr (.inl (by simp [own, VDs.of])))
      · obtain ⟨d, md, m2⟩ := allVs_mem.mp m
        clear m
        rw [VDs.list_of] at md
        have sub : ∀ d ∈ a ++ e :: b, y ∈ allV d → y ∈ allV (.tup (.of (a ++ e :: b))) := fun d md m => List.mem_append.mpr (.inr (allVs_mem.mpr ⟨d, by rw [VDs.list_of]; exact md, m⟩))
        rcases List.mem_append.mp md with md | md
        · exact .inr (sub d (List.mem_append.mpr (.inl md)) m2)
        · rcases List.mem_cons.mp md with rfl | md
          · rcases hx y m2 with q | q
            · exact .inl q
            · exact .inr (sub e (by simp) q)
          · exact .inr (sub d (List.mem_append.mpr (.inr (List.mem_cons_of_mem _ md))) m2)
    · obtain ⟨x, hx⟩ := opt_one (own (.of (a ++ e' :: b))) (.inr 0)
      refine ⟨x, fun y m => ?_⟩
      rcases List.mem_append.mp (show y ∈ (own (.of (a ++ e' :: b))).toList ++ allVs (.of (a ++ e' :: b)) from m) with m | m
      · exact .inl (hx y m)
      · obtain ⟨d, md, m2⟩ := allVs_mem.mp m
        clear m
        rw [VDs.list_of] at md
        have sub : ∀ d ∈ a ++ e :: b, y ∈ allV d → y ∈ allV (.tup (.of (a ++ e :: b))) := fun d md m => List.mem_append.mpr (.inr (allVs_mem.mpr ⟨d, by rw [VDs.list_of]; exact md, m⟩))
        rcases List.mem_append.mp md with md | md
        · exact .inr (sub d (List.mem_append.mpr (.inl md)) m2)
        · rcases List.mem_cons.mp md with rfl | md
          · cases d with
            | tup ds => exact absurd rfl t
            | _ => cases m2
          · exact .inr (sub d (List.mem_append.mpr (.inr (List.mem_cons_of_mem _ md))) m2)
end

end K45
namespace K45
open PySem PySem.Spec PyProof.Rows L2 Evl Lw
section
variable {P : Program} {w : World} {K : PySem.W.Frag} {mg : Str → Option Value} {base : Heap}
def spCkForm (K : PySem.W.Frag) : Sp := fun vs H Q _ => ∃ a v l d, vs = [.ref a, v] ∧ StageAt K H a l ∧ VAt H v d ∧ dpV d ≤ 25 ∧ wdV d ≤ 50000 ∧ isF l d = true ∧ ∀ H', Ex H H' → Q .non H'
theorem c_check_form (T : Txt K mg) : Cl P w K mg base CX0 31 "check_form" s_check_form ["stage", "value"] (spCkForm K) := by
  refine cl_of (k := 30) T.d_check_form sc_check_form (fun vs H Q E h => ?_) (fun f cdv A outer s H vs Q E hr h => ?_)
  · obtain ⟨a, v, l, d, rfl, _⟩ := h
    rfl
  · obtain ⟨a, v, l, d, rfl, hl, hv, hd, hw, hf, q⟩ := h
    have nd := sc_check_form.nd
    refine ⟨_, (pss_one (ps_if (pt_not (pt_val (Lw.pe_cl (c_has_form T 25) b_has_form hr (by decide) (by rfl) pass0 (pa_cons (pv 0) (pa_cons (pv 1) pa_nil))))) (pss_one Lw.ps_dead) pss_nil)), ?_⟩
    repeat fail "st"
    refine ⟨a, v, l, d, rfl, hl, hv, hd, hw, fun H1 e1 => ?_⟩
    rw [hf]
    repeat fail "st"
    exact q _ e1
def spReduced (K : PySem.W.Frag) : Sp := fun vs H Q _ => ∃ (a : Addr) (v : V) (l : List Sfc) (d : VD) (f : Fo.Form Cell) (S : List Cell) (C : List Int), vs = [.ref a, v] ∧ Sg H (.ref a) (some l) ∧ VAt H v d ∧ dpV d ≤ 25 ∧ wdV d ≤ 50000 ∧ isF l d = true ∧
  FormAt H v f ∧ Fo.Ok (fun c => c ∈ C) (fun _ => True) (fun k => k ∈ S) f ∧ S.length ≤ 5 ∧ C.length ≤ 6 ∧ dpF f ≤ 18 ∧ szF f ≤ 20000 ∧ ∀ v' H', Ex H H' → FormAt H' v' (Fo.redN ltC 5 f) → Q v' H'
theorem c_reduced (T : Txt K mg) : Cl P w K mg base CX0 41 "reduced" s_reduced ["stage", "form"] (spReduced K) := by
  refine cl_of (k := 40) T.d_reduced sc_reduced (fun vs H Q E h => ?_) (fun f cdv A outer s H vs Q E hr h => ?_)
  · obtain ⟨a, v, l, d, fo, S, C, rfl, _⟩ := h
    rfl
  · obtain ⟨a, v, l, d, fo, S, C, rfl, sg, hv, hd, hw, hf, ha, ok, hS, hC, h18, hsz, q⟩ := h
    have nd := sc_reduced.nd
    refine ⟨_, (pss_cons (ps_expr (Lw.pe_cl (c_check_stage T) b_check_stage hr (by decide) (by rfl) pass0 (pa_cons (pv 0) pa_nil)))
      (pss_cons (ps_expr (Lw.pe_cl (c_check_form T) b_check_form hr (by decide) (by rfl) pass0 (pa_cons (pv 0) (pa_cons (pv 1) pa_nil))))
      (pss_one (ps_ret (Lw.pe_cl (c_reduce T 6) b_reduce hr (by decide) (by rfl) pass0 (pa_cons (pv 1) pa_nil)))))), ?_⟩
    repeat fail "st"
    refine ⟨.ref a, l, rfl, sg, fun H1 e1 => ?_⟩
    obtain ⟨a', ea, hl⟩ := stage_some (K := K) (sg.up e1)
    obtain rfl : a = a' := V.ref.inj ea
    have hv := VAt.up e1 hv
    repeat fail "st"
    refine ⟨a, v, l, d, rfl, hl, hv, hd, hw, hf, fun H2 e2 => ?_⟩
    have ha := ha.up (e1.trans e2)
    repeat fail "st"
    exact ⟨v, fo, S, C, rfl, ha, ok, by omega, hC, by omega, h18, hsz, fun v' H' e' h' => q v' H' ((e1.trans e2).trans e') h'⟩
end

end K45
namespace K45
open PySem PySem.Spec PyProof.Rows L2 Evl Lw
section
variable {P : Program} {w : World} {K : PySem.W.Frag} {mg : Str → Option Value} {base : Heap}
def vdC (k : Cell) : VD := .tup (.cons (.str k.1) (.cons (.int k.2.1) (.cons (.int k.2.2) .nil)))
theorem cell_inv {l : List Sfc} {d : VD} (h : isCellB l d = true) : ∃ k, d = vdC k ∧ ∃ s ∈ l, s.1 = k.1 := by
  match d, h with
  | .tup (.cons (.str n) (.cons x (.cons y .nil))), h =>
    replace h : (match l.find? fun s => decide (s.1 = n) with
      | some s => inD 0 (s.2.1 - 1) x && inD 0 (s.2.2 - 1) y
      | none => false) = true := h
    cases e : l.find? fun s => decide (s.1 = n) with
    | none => rw [e] at h; cases h
    | some s =>
      rw [e] at h
      replace h : (inD 0 (s.2.1 - 1) x && inD 0 (s.2.2 - 1) y) = true := h
      rw [Bool.and_eq_true] at h
      match x, y, h with
      | .int x, .int y, _ => exact ⟨(n, x, y), rfl, s, List.mem_of_find?_eq_some e, by simpa using List.find?_some e⟩
theorem oneV_inv {p : VD → Bool} {ds : VDs} (h : oneV p ds = true) : ∃ d, ds = .cons d .nil ∧ p d = true := by
  match ds, h with
  | .cons d .nil, h => exact ⟨d, rfl, h⟩
theorem askV_inv {l : List Sfc} {ds : VDs} (h : askV l ds = true) : ∃ d r o, ds = .cons d (.cons r (.cons o .nil)) ∧ isCellB l d = true ∧ isBr l r = true ∧ isF l o = true := by
  match ds, h with
  | .cons d (.cons r (.cons o .nil)), h =>
    replace h : (isCellB l d && (isBr l r && isF l o)) = true := h
    rw [Bool.and_eq_true, Bool.and_eq_true] at h
    exact ⟨d, r, o, rfl, h.1, h.2.1, h.2.2⟩
theorem isF_inv {l : List Sfc} {d : VD} (h : isF l d = true) : (∃ c, d = .tup (.cons (.str "colour") (.cons (.int c) .nil)) ∧ 0 ≤ c ∧ c ≤ 1000000000) ∨ (∃ k, d = .tup (.cons (.str "cell") (.cons (vdC k) .nil)) ∧ isCellB l (vdC k) = true) ∨
    ∃ k rs o, d = .tup (.cons (.str "ask") (.cons (vdC k) (.cons (.tup rs) (.cons o .nil)))) ∧ isCellB l (vdC k) = true ∧ isBr l (.tup rs) = true ∧ isF l o = true := by
  match d, h with
  | .tup (.cons (.str n) ds), h =>
    rw [isF_eq] at h
    split at h
    · rename_i e
      subst e
      obtain ⟨d, rfl, h⟩ := oneV_inv h
      match d, h with
      | .int c, h =>
        replace h : (decide (0 ≤ c) && decide (c ≤ 1000000000)) = true := h
        rw [Bool.and_eq_true] at h
        exact .inl ⟨c, rfl, of_decide_eq_true h.1, of_decide_eq_true h.2⟩
    · split at h
      · rename_i e
        subst e
        obtain ⟨d, rfl, h⟩ := oneV_inv h
        obtain ⟨k, rfl, _⟩ := cell_inv h
        exact .inr (.inl ⟨k, rfl, h⟩)
      · split at h
        · rename_i e
          subst e
          obtain ⟨d, r, o, rfl, h1, h2, h3⟩ := askV_inv h
          obtain ⟨k, rfl, _⟩ := cell_inv h1
          match r, h2 with
          | .tup rs, h2 => exact .inr (.inr ⟨k, rs, o, rfl, h1, h2, h3⟩)
        · cases h
mutual
theorem ok_mono3 {N N' : Int → Prop} {E E' A B : Cell → Prop} (g : ∀ c, N c → N' c) (e : ∀ k, E k → E' k) (h : ∀ k, A k → B k) : ∀ f : Fo.Form Cell, Fo.Ok N E A f → Fo.Ok N' E' B f
  | .col c, q => g c q
  | .cel k, q => e k q
  | .ask k rows o, ⟨a, z, b, c⟩ => ⟨h _ a, z, ok_mono3R g e h rows b, ok_mono3 g e h o c⟩
theorem ok_mono3R {N N' : Int → Prop} {E E' A B : Cell → Prop} (g : ∀ c, N c → N' c) (e : ∀ k, E k → E' k) (h : ∀ k, A k → B k) : ∀ r : Fo.Rows Cell, Fo.OkR N E A r → Fo.OkR N' E' B r
  | .nil, q => q
  | .cons c f t, ⟨a, b, d⟩ => ⟨g _ a, ok_mono3 g e h f b, ok_mono3R g e h t d⟩
end
theorem asc_pw : ∀ {as : List Int}, ascI as = true → as.Pairwise (· < ·)
  | [], _ => .nil
  | [a], _ => by simp
  | a :: b :: t, h => by
    replace h : (decide (a < b) && ascI (b :: t)) = true := h
    rw [Bool.and_eq_true] at h
    have h1 := of_decide_eq_true h.1
    have h2 := asc_pw h.2
    refine List.pairwise_cons.mpr ⟨fun c m => ?_, h2⟩
    rcases List.mem_cons.mp m with rfl | m
    · exact h1
    · exact Int.lt_trans h1 ((List.pairwise_cons.mp h2).1 c m)
/-- what a form is told by -/
def ColB (c : Int) : Prop := 0 ≤ c ∧ c ≤ 1000000000
abbrev Told (l : List Sfc) (d : VD) (f : Fo.Form Cell) : Prop := Fo.Ok (fun c => .inr c ∈ allV d ∧ ColB c) (fun k => isCellB l (vdC k) = true) (fun k => .inl k ∈ allV d ∧ isCellB l (vdC k) = true) f ∧ dpF f ≤ dpV d ∧ szF f ≤ szV d
theorem cell_at {H : Hp} {l : List Sfc} (hl : ∀ s ∈ l, PyData.strOk s.1 = true) {v : V} {k : Cell} (h : VTu H v (vdC k)) (hc : isCellB l (vdC k) = true) : ∃ a, v = .ref a ∧ CellAt H a k := by
  obtain ⟨k', e, s, ms, es⟩ := cell_inv hc
  cases h with
  | tup ht hs =>
    cases hs with
    | cons h1 hs => cases hs with
      | cons h2 hs => cases hs with
        | cons h3 hs =>
          cases hs
          cases h1
          cases h2
          cases h3
          have ek : k'.1 = k.1 := by
            have := VD.tup.inj e
            have := (VDs.cons.inj this).1
            exact (VD.str.inj this).symm
          exact ⟨_, rfl, TF.tup ht, by rw [← ek, ← es]; exact hl s ms⟩
theorem form_of {H : Hp} {l : List Sfc} (hl : ∀ s ∈ l, PyData.strOk s.1 = true) : ∀ (n : Nat) {d : VD} {v : V}, dpV d ≤ n → VTu H v d → isF l d = true → ∃ f, FormAt H v f ∧ Told l d f
  | 0, d, _, hn, _, _ => by
    have := dpV_pos d
    omega
  | n + 1, d, v, hn, hv, hf => by
    rcases isF_inv hf with ⟨c, rfl, bc⟩ | ⟨k, rfl, hc⟩ | ⟨k, rs, o, rfl, hc, hr, ho⟩
    · cases hv with
      | tup ht hs =>
        cases hs with
        | cons h1 hs => cases hs with
          | cons h2 hs =>
            cases hs
            cases h1
            cases h2
            exact ⟨.col c, .col (TF.tup ht), ⟨List.mem_append.mpr (.inl List.mem_cons_self), bc⟩, by show 1 ≤ 1 + _; omega, by show 1 ≤ 1 + _; omega⟩
    · cases hv with
      | tup ht hs =>
        cases hs with
        | cons h1 hs => cases hs with
          | cons h2 hs =>
            cases hs
            cases h1
            obtain ⟨a, rfl, ca⟩ := cell_at hl h2 hc
            exact ⟨.cel k, .cel (TF.tup ht) ca, hc, by show 1 ≤ 1 + _; omega, by show 1 ≤ 1 + _; omega⟩
    · cases hv with
      | tup ht hs =>
        cases hs with
        | cons h1 hs => cases hs with
          | cons h2 hs => cases hs with
            | cons h3 hs => cases hs with
              | cons h4 hs =>
                cases hs
                cases h1
                obtain ⟨a, rfl, ca⟩ := cell_at hl h2 hc
                have dn : 1 + max (dpV (.str "ask")) (max (dpV (vdC k)) (max (1 + dpVs rs) (max (dpV o) 0))) ≤ n + 1 := hn
                obtain ⟨fo, fa, ok, f18, fsz⟩ := form_of hl n (by omega) h4 ho
                cases h3 with
                | tup hrt hrs =>
                  rw [isBr_eq, Bool.and_eq_true, Bool.and_eq_true, Bool.and_eq_true, List.all_eq_true] at hr
                  obtain ⟨r1, r2, r3, r4⟩ := hr
                  have rows : ∀ (ds : VDs) {xs : List V}, dpVs ds ≤ n - 1 → VsTu H xs ds → (∀ d ∈ ds.list, (colV d).isSome = true) → isBs l ds = true → ∃ r, RowsAt H xs r ∧ Fo.OkR (fun c => .inr c ∈ allVs ds ∧ ColB c) (fun k => isCellB l (vdC k) = true) (fun k => .inl k ∈ allVs ds ∧ isCellB l (vdC k) = true) r ∧ Fo.cols r = ds.list.filterMap colV ∧ dpR r ≤ dpVs ds ∧ szR r ≤ szVs ds := by
                    intro ds
                    induction ds using VDs.rec (motive_1 := fun _ => True) with
                    | nil =>
                      intro xs _ h _ _
                      cases h
                      exact ⟨.nil, .nil, trivial, rfl, Nat.le_refl _, Nat.le_refl _⟩
                    | cons d t _ ih =>
                      intro xs hd h hc hb
                      cases h with
                      | cons g gs =>
                        obtain ⟨p, rfl, cp, bp⟩ := colV_some (hc d List.mem_cons_self)
                        replace hb : (isF l p.2 && isBs l t) = true := hb
                        rw [Bool.and_eq_true] at hb
                        have hd2 : max (1 + max (dpV (.int p.1)) (max (dpV p.2) 0)) (dpVs t) ≤ n - 1 := hd
                        obtain ⟨r, ra, rok, rc, rd, rz⟩ := ih (by omega) gs (fun d m => hc d (List.mem_cons_of_mem _ m)) hb.2
                        cases g with
                        | tup pt ps =>
                          cases ps with
                          | cons p1 ps => cases ps with
                            | cons p2 ps =>
                              cases ps
                              cases p1
                              obtain ⟨fg, ga, gok, g18, gsz⟩ := form_of hl n (by omega) p2 hb.1
                              have sub : ∀ x, x ∈ allV p.2 → x ∈ allVs (.cons (rowV p) t) := fun x m => List.mem_append.mpr (.inl (List.mem_append.mpr (.inr (List.mem_append.mpr (.inr (List.mem_append.mpr (.inl m)))))))
                              refine ⟨.cons p.1 fg r, .cons (TF.tup pt) ga ra, ⟨⟨List.mem_append.mpr (.inl (List.mem_append.mpr (.inl List.mem_cons_self))), bp⟩, ok_mono3 (fun c m => ⟨sub _ m.1, m.2⟩) (fun _ e => e) (fun k m => ⟨sub _ m.1, m.2⟩) _ gok, ok_mono3R (fun c m => ⟨List.mem_append.mpr (.inr m.1), m.2⟩) (fun _ e => e) (fun k m => ⟨List.mem_append.mpr (.inr m.1), m.2⟩) _ rok⟩, ?_, ?_, ?_⟩
                              · show p.1 :: Fo.cols r = (rowV p :: t.list).filterMap colV
                                rw [List.filterMap_cons_some cp, rc]
                              · show max (dpF fg) (dpR r) ≤ max (1 + max (dpV (.int p.1)) (max (dpV p.2) 0)) (dpVs t)
                                omega
                              · show 1 + (szF fg + szR r) ≤ (1 + (1 + (szV p.2 + 0))) + szVs t
                                omega
                    | _ => trivial
                  obtain ⟨r, ra, rok, rc, rd, rz⟩ := rows rs (by omega) hrs r2 r4
                  have ne : rs.list ≠ [] := fun z => by rw [z] at r1; cases r1
                  have fst : firstT rs = true := by
                    match rs, ne, r2 with
                    | .nil, ne, _ => exact absurd rfl ne
                    | .cons d t, _, r2 =>
                      obtain ⟨p, rfl, _⟩ := colV_some (r2 d List.mem_cons_self)
                      rfl
                  rw [fst] at hrt
                  have sub1 : ∀ x, x ∈ allV o → x ∈ allV (.tup (.cons (.str "ask") (.cons (vdC k) (.cons (.tup rs) (.cons o .nil))))) := fun x m => List.mem_append.mpr (.inr (List.mem_append.mpr (.inr (List.mem_append.mpr (.inr (List.mem_append.mpr (.inr (List.mem_append.mpr (.inl m)))))))))
                  have sub2 : ∀ x, x ∈ allVs rs → x ∈ allV (.tup (.cons (.str "ask") (.cons (vdC k) (.cons (.tup rs) (.cons o .nil))))) := fun x m => List.mem_append.mpr (.inr (List.mem_append.mpr (.inr (List.mem_append.mpr (.inr (List.mem_append.mpr (.inl (List.mem_append.mpr (.inr m)))))))))
                  refine ⟨.ask k r fo, .ask (TF.tup ht) ca (TF.tu hrt) ra fa, ⟨?_, ⟨?_, ?_⟩, ok_mono3R (fun c m => ⟨sub2 _ m.1, m.2⟩) (fun _ e => e) (fun k m => ⟨sub2 _ m.1, m.2⟩) _ rok, ok_mono3 (fun c m => ⟨sub1 _ m.1, m.2⟩) (fun _ e => e) (fun k m => ⟨sub1 _ m.1, m.2⟩) _ ok⟩, ?_, ?_⟩
                  · exact ⟨List.mem_append.mpr (.inr (List.mem_append.mpr (.inr (List.mem_append.mpr (.inl (List.mem_append.mpr (.inl List.mem_cons_self))))))), hc⟩
                  · rw [rc]
                    intro z
                    match rs, ne, r2, z with
                    | .nil, ne, _, _ => exact absurd rfl ne
                    | .cons d t, _, r2, z =>
                      obtain ⟨p, _, cp, _⟩ := colV_some (r2 d List.mem_cons_self)
                      rw [show (VDs.cons d t).list = d :: t.list from rfl, List.filterMap_cons_some cp] at z
                      cases z
                  · rw [rc]
                    exact asc_pw r3
                  · show 1 + max (dpR r) (dpF fo) ≤ 1 + max (dpV (.str "ask")) (max (dpV (vdC k)) (max (1 + dpVs rs) (max (dpV o) 0)))
                    omega
                  · show 1 + (szR r + szF fo) ≤ 1 + (1 + (szV (vdC k) + (1 + szVs rs + (szV o + 0))))
                    omega
mutual
/-- a form as a value -/
def vdF : Fo.Form Cell → VD
  | .col c => .tup (.cons (.str "colour") (.cons (.int c) .nil))
  | .cel k => .tup (.cons (.str "cell") (.cons (vdC k) .nil))
  | .ask k r o => .tup (.cons (.str "ask") (.cons (vdC k) (.cons (.tup (vdR r)) (.cons (vdF o) .nil))))
def vdR : Fo.Rows Cell → VDs
  | .nil => .nil
  | .cons c f t => .cons (.tup (.cons (.int c) (.cons (vdF f) .nil))) (vdR t)
end
theorem vtC {H : Hp} {a : Addr} {k : Cell} (h : CellAt H a k) : VTu H (.ref a) (vdC k) := .tup (TF.of h.1) (.cons (.str _) (.cons (.int _) (.cons (.int _) .nil)))
mutual
theorem form_vtu {H : Hp} {N : Int → Prop} {E A : Cell → Prop} : ∀ {f : Fo.Form Cell} {v : V}, FormAt H v f → Fo.Ok N E A f → VTu H v (vdF f)
  | .col c, _, .col h, _ => .tup (TF.of h) (.cons (.str _) (.cons (.int _) .nil))
  | .cel k, _, .cel h ca, _ => .tup (TF.of h) (.cons (.str _) (.cons (vtC ca) .nil))
  | .ask k r o, _, .ask h ca tu ra fa, ⟨_, z, b, d⟩ => .tup (TF.of h) (.cons (.str _) (.cons (vtC ca) (.cons (.tup (by
      have : firstT (vdR r) = true := by
        cases r with
        | nil => exact absurd rfl z.1
        | cons c f t => rfl
      rw [this]
      exact TF.ofTu tu) (rows_vtu ra b)) (.cons (form_vtu fa d) .nil))))
theorem rows_vtu {H : Hp} {N : Int → Prop} {E A : Cell → Prop} : ∀ {r : Fo.Rows Cell} {xs : List V}, RowsAt H xs r → Fo.OkR N E A r → VsTu H xs (vdR r)
  | .nil, _, .nil, _ => .nil
  | .cons c f t, _, .cons h hf tt, ⟨_, b, d⟩ => .cons (.tup (TF.of h) (.cons (.int _) (.cons (form_vtu hf b) .nil))) (rows_vtu tt d)
end
theorem vdR_col {N : Int → Prop} {E A : Cell → Prop} (g : ∀ c, N c → ColB c) : ∀ {r : Fo.Rows Cell}, Fo.OkR N E A r → (vdR r).list.all (fun d => (colV d).isSome) = true ∧ (vdR r).list.filterMap colV = Fo.cols r
  | .nil, _ => ⟨rfl, rfl⟩
  | .cons c f t, ⟨a, _, d⟩ => by
    obtain ⟨h1, h2⟩ := vdR_col g d
    have hc : colV (.tup (.cons (.int c) (.cons (vdF f) .nil))) = some c := if_pos (g c a)
    refine ⟨?_, ?_⟩
    · show ((colV (.tup (.cons (.int c) (.cons (vdF f) .nil)))).isSome && _) = true
      rw [hc]
      exact h1
    · show (VD.tup (.cons (.int c) (.cons (vdF f) .nil)) :: (vdR t).list).filterMap colV = c :: Fo.cols t
      rw [List.filterMap_cons_some hc, h2]
theorem pw_ascI : ∀ {as : List Int}, as.Pairwise (· < ·) → ascI as = true
  | [], _ => rfl
  | [a], _ => rfl
  | a :: b :: t, h => by
    show (decide (a < b) && ascI (b :: t)) = true
    rw [decide_eq_true ((List.pairwise_cons.mp h).1 b List.mem_cons_self), pw_ascI (List.pairwise_cons.mp h).2]
    rfl
mutual
theorem isF_vd {l : List Sfc} {N : Int → Prop} {E A : Cell → Prop} (g : ∀ c, N c → ColB c) (e : ∀ k, E k → isCellB l (vdC k) = true) (h : ∀ k, A k → isCellB l (vdC k) = true) : ∀ {f : Fo.Form Cell}, Fo.Ok N E A f → isF l (vdF f) = true
  | .col c, q => by
    show (decide (0 ≤ c) && decide (c ≤ 1000000000)) = true
    rw [decide_eq_true (g c q).1, decide_eq_true (g c q).2]
    rfl
  | .cel k, q => e k q
  | .ask k r o, ⟨a, z, b, d⟩ => by
    show (isCellB l (vdC k) && (isBr l (.tup (vdR r)) && isF l (vdF o))) = true
    obtain ⟨h1, h2⟩ := vdR_col g b
    rw [h k a, isF_vd g e h d, isBr_eq, h1, h2, pw_ascI z.2, isBs_vd g e h b]
    cases r with
    | nil => exact absurd rfl z.1
    | cons c f t => rfl
theorem isBs_vd {l : List Sfc} {N : Int → Prop} {E A : Cell → Prop} (g : ∀ c, N c → ColB c) (e : ∀ k, E k → isCellB l (vdC k) = true) (h : ∀ k, A k → isCellB l (vdC k) = true) : ∀ {r : Fo.Rows Cell}, Fo.OkR N E A r → isBs l (vdR r) = true
  | .nil, _ => rfl
  | .cons c f t, ⟨_, b, d⟩ => by
    show (isF l (vdF f) && isBs l (vdR t)) = true
    rw [isF_vd g e h b, isBs_vd g e h d]
    rfl
end
mutual
theorem dp_vd : ∀ f : Fo.Form Cell, dpV (vdF f) ≤ 3 * dpF f
  | .col _ => by show 2 ≤ 3; omega
  | .cel _ => by show 3 ≤ 3; omega
  | .ask k r o => by
    have h1 := dp_vdR r
    have h2 := dp_vd o
    have h3 := dpF_pos o
    show 1 + max 1 (max 2 (max (1 + dpVs (vdR r)) (max (dpV (vdF o)) 0))) ≤ 3 * (1 + max (dpR r) (dpF o))
    omega
theorem dp_vdR : ∀ r : Fo.Rows Cell, dpVs (vdR r) ≤ 3 * dpR r + 1
  | .nil => Nat.zero_le _
  | .cons c f t => by
    have h1 := dp_vd f
    have h2 := dp_vdR t
    show max (1 + max 1 (max (dpV (vdF f)) 0)) (dpVs (vdR t)) ≤ 3 * max (dpF f) (dpR t) + 1
    have h3 := dpF_pos f
    omega
end
theorem vdR_len : ∀ r : Fo.Rows Cell, (vdR r).list.length ≤ szR r
  | .nil => Nat.le_refl _
  | .cons c f t => by
    have := vdR_len t
    show (vdR t).list.length + 1 ≤ 1 + (szF f + szR t)
    omega
mutual
theorem wd_vd : ∀ f : Fo.Form Cell, wdV (vdF f) ≤ max 4 (szF f)
  | .col _ => by show 2 ≤ _; omega
  | .cel _ => by show 3 ≤ _; omega
  | .ask k r o => by
    have h1 := wd_vdR r
    have h2 := wd_vd o
    have h3 := vdR_len r
    show max 4 (max 0 (max (max 3 0) (max (max (vdR r).list.length (wdVs (vdR r))) (max (wdV (vdF o)) 0)))) ≤ max 4 (1 + (szR r + szF o))
    omega
theorem wd_vdR : ∀ r : Fo.Rows Cell, wdVs (vdR r) ≤ max 4 (szR r)
  | .nil => Nat.zero_le _
  | .cons c f t => by
    have h1 := wd_vd f
    have h2 := wd_vdR t
    show max (max 2 (max 0 (max (wdV (vdF f)) 0))) (wdVs (vdR t)) ≤ max 4 (1 + (szF f + szR t))
    omega
end
mutual
theorem sz_vd {N : Int → Prop} {E A : Cell → Prop} : ∀ {f : Fo.Form Cell}, Fo.Ok N E A f → szV (vdF f) ≤ 5 * szF f + 1
  | .col _, _ => by show 3 ≤ 6; omega
  | .cel _, _ => by show 6 ≤ 6; omega
  | .ask k r o, ⟨_, z, b, d⟩ => by
    have h1 := sz_vdR b
    have h2 := sz_vd d
    have h3 := List.length_pos_iff.mpr z.1
    show 1 + (1 + (4 + (1 + szVs (vdR r) + (szV (vdF o) + 0)))) ≤ 5 * (1 + (szR r + szF o)) + 1
    omega
theorem sz_vdR {N : Int → Prop} {E A : Cell → Prop} : ∀ {r : Fo.Rows Cell}, Fo.OkR N E A r → szVs (vdR r) + 2 * (Fo.cols r).length ≤ 5 * szR r
  | .nil, _ => Nat.le_refl _
  | .cons c f t, ⟨_, b, d⟩ => by
    have h1 := sz_vd b
    have h2 := sz_vdR d
    show 1 + (1 + (szV (vdF f) + 0)) + szVs (vdR t) + 2 * ((Fo.cols t).length + 1) ≤ 5 * (1 + (szF f + szR t))
    omega
end
mutual
theorem all_vd {N : Int → Prop} {E A : Cell → Prop} {T : Cell ⊕ Int → Prop} (g : ∀ c, N c → T (.inr c)) (e : ∀ k, E k → T (.inl k)) (h : ∀ k, A k → T (.inl k)) : ∀ {f : Fo.Form Cell}, Fo.Ok N E A f → ∀ x ∈ allV (vdF f), T x
  | .col c, q, x, m => by
    rw [show x = .inr c from by simpa [vdF, allV, allVs, own] using m]
    exact g c q
  | .cel k, q, x, m => by
    rw [show x = .inl k from by simpa [vdF, allV, allVs, own, vdC] using m]
    exact e k q
  | .ask k r o, ⟨a, _, b, d⟩, x, m => by
    have m2 : x ∈ ([Sum.inl k] : List (Cell ⊕ Int)) ∨ x ∈ (own (vdR r)).toList ∨ x ∈ allVs (vdR r) ∨ x ∈ allV (vdF o) := by
      have o1 : own (.cons (.str "ask") (.cons (vdC k) (.cons (.tup (vdR r)) (.cons (vdF o) .nil)))) = none := rfl
      have o2 : own (.cons (.str k.1) (.cons (.int k.2.1) (.cons (.int k.2.2) .nil))) = some (.inl k) := rfl
      have m1 : x ∈ (own (.cons (.str "ask") (.cons (vdC k) (.cons (.tup (vdR r)) (.cons (vdF o) .nil))))).toList ++ ([] ++ (((own (.cons (.str k.1) (.cons (.int k.2.1) (.cons (.int k.2.2) .nil)))).toList ++ []) ++ (((own (vdR r)).toList ++ allVs (vdR r)) ++ (allV (vdF o) ++ [])))) := m
      rw [o1, o2] at m1
      simp only [List.mem_append, Option.toList_none, Option.toList_some, List.not_mem_nil, false_or, or_false] at m1
      rcases m1 with m1 | (m1 | m1) | m1
      · exact .inl m1
      · exact .inr (.inl m1)
      · exact .inr (.inr (.inl m1))
      · exact .inr (.inr (.inr m1))
    rcases m2 with m | m | m | m
    · rw [List.mem_singleton.mp m]
      exact h k a
    · cases r with
      | nil => cases m
      | cons c f t => cases m
    · exact all_vdR g e h b x m
    · exact all_vd g e h d x m
theorem all_vdR {N : Int → Prop} {E A : Cell → Prop} {T : Cell ⊕ Int → Prop} (g : ∀ c, N c → T (.inr c)) (e : ∀ k, E k → T (.inl k)) (h : ∀ k, A k → T (.inl k)) : ∀ {r : Fo.Rows Cell}, Fo.OkR N E A r → ∀ x ∈ allVs (vdR r), T x
  | .nil, _, x, m => by cases m
  | .cons c f t, ⟨a, b, d⟩, x, m => by
    have m1 : x ∈ ((own (.cons (.int c) (.cons (vdF f) .nil))).toList ++ ([] ++ (allV (vdF f) ++ []))) ++ allVs (vdR t) := m
    rw [show own (.cons (.int c) (.cons (vdF f) .nil)) = some (.inr c) from rfl] at m1
    simp only [List.mem_append, Option.toList_some, List.mem_singleton, List.not_mem_nil, false_or, or_false] at m1
    rcases m1 with (m1 | m1) | m1
    · rw [m1]
      exact g c a
    · exact all_vd g e h b x m1
    · exact all_vdR g e h d x m1
end
end

end K45
namespace K45
open PySem PySem.Spec PyProof.Rows L2 Evl Lw
section
variable {P : Program} {w : World} {K : PySem.W.Frag} {mg : Str → Option Value} {base : Heap}
/-- the law's stage -/
def roomsL (h : Int) : List Sfc := [("a", 1000000000000, h), ("b", 3, 1000000000000), ("c", 1, 1)]
def menuL : List (List Int) := [[0, 1, 2], [3, 5], [0, 1000000000], [7], [1, 999999999, 1000000000]]
def mkC (n : Str) (x y : Int) : Cell := (n, x, y)
/-- a cell on the law's stage -/
def OnL (k : Cell) : Prop := k = mkC "a" 999999999999 0 ∨ (∃ d : Int, 0 ≤ d ∧ d < 9 ∧ k = mkC "a" d 0) ∨ k = mkC "c" 0 0 ∨ (∃ d : Int, 0 ≤ d ∧ d < 9 ∧ k = mkC "b" 2 (999999999999 - d)) ∨ k = mkC "b" 0 0
def spLarge (K : PySem.W.Frag) : Sp := fun vs H Q _ => ∃ p, vs = [.ref p] ∧ Pool H p ∧ ∀ (t r sa ca : Addr) (h : Int) (as : List Addr) (S : List Cell) (C : List Int) (H' : Hp), Ex H H' → H' t = some (.lst [.ref r, .ref sa, .ref ca]) →
  1 ≤ h ∧ h ≤ 9 → Sg H' (.ref r) (some (roomsL h)) → H' sa = some (.lst (as.map V.ref)) → Cells H' as S → S ≠ [] → S.length ≤ 3 → S.Nodup → (∀ k ∈ S, OnL k) → H' ca = some (.lst (C.map V.int)) → C ∈ menuL → Q (.ref t) H'
theorem e12 : (10 : Int) ^ Int.toNat 12 = 1000000000000 := by decide
theorem e9b : (10 : Int) ^ Int.toNat 9 = 1000000000 := by decide
theorem ne_cells {H : Hp} {a l : Addr} {as : List Addr} {ks : List Cell} {Q : VK} (hl : H a = some (.lst (as.map V.ref))) (h : Cells H as ks) (hn : H l = some (.lst [])) (q : Q (.bl (!decide (ks = []))) H) : rNeD K (.ref a) (.ref l) H Q := by
  obtain ⟨h1, h2, h3⟩ := cells_dp (K := K) h
  refine ⟨_, _, .lst (SqL.of hl) h1, .lst (SqL.of hn) .nil, ?_, rfl, ?_⟩
  · unfold SeqAt.shaped
    rw [Bool.and_eq_true]
    refine ⟨h2, decide_eq_true ?_⟩
    show PyData.depthAll _ + 1 ≤ 64
    omega
  · rw [show PyData.eqv (.list (ks.map datC)) (.list []) = decide (ks = []) from by cases ks <;> rfl]
    exact q
theorem cut3 (xs : List V) : cutV xs none (some 3) = xs.take 3 := by
  unfold cutV
  rw [HT.sIx_none, Nat.sub_zero, List.drop_zero, show (3 : Int) = ((3 : Nat) : Int) from rfl, HT.sIx_nat]
  by_cases h : 3 ≤ xs.length
  · rw [Nat.min_eq_left h]
  · rw [Nat.min_eq_right (by omega), List.take_of_length_le (Nat.le_refl _), List.take_of_length_le (by omega)]
theorem short3 {H : Hp} {s : Str} {i j : Int} (l : s.length ≤ 1000) : ∀ x ∈ [V.str s, .int i, .int j], (∃ n, Kd H x n) ∧ Short x := fun x m => by
  simp only [List.mem_cons, List.not_mem_nil, or_false] at m
  rcases m with rfl | rfl | rfl
  · exact ⟨⟨_, .str _⟩, fun t e => by cases e; exact l⟩
  · exact ⟨⟨_, .int _⟩, fun t e => by cases e⟩
  · exact ⟨⟨_, .int _⟩, fun t e => by cases e⟩
theorem stage_rooms {h : Int} (b : 1 ≤ h ∧ h ≤ 9) : stageL [surfL [.str "a", .int 1000000000000, .int h], surfL [.str "b", .int 3, .int 1000000000000], surfL [.str "c", .int 1, .int 1]] = some (roomsL h) := by
  have s1 : surfL [.str "a", .int 1000000000000, .int h] = some ((roomsL h).head (by simp [roomsL])) := by
    show (ite _ _ _ : Option Sfc) = _
    rw [show nameB "a" = true by decide +kernel]
    unfold sideB
    rw [decide_eq_true b.1, show decide (h ≤ 1000000000000) = true from decide_eq_true (by omega)]
    rfl
  have asc : ascB (roomsL h) = true := by
    show (decide ((Str.ofString "a").cps.toList < (Str.ofString "b").cps.toList) && (decide ((Str.ofString "b").cps.toList < (Str.ofString "c").cps.toList) && true)) = true
    decide +kernel
  rw [s1, show surfL [.str "b", .int 3, .int 1000000000000] = some ((roomsL 1).getD 1 ((roomsL 1).head (by simp [roomsL]))) from by decide +kernel, show surfL [.str "c", .int 1, .int 1] = some ((roomsL 1).getD 2 ((roomsL 1).head (by simp [roomsL]))) from by decide +kernel]
  show (if (_ && (_ && ascB (roomsL h))) = true then _ else _ : Option (List Sfc)) = _
  rw [asc]
  rfl
theorem ok_a : PyData.strOk (Str.ofString "a") = true := by decide +kernel
theorem ok_b : PyData.strOk (Str.ofString "b") = true := by decide +kernel
theorem ok_c : PyData.strOk (Str.ofString "c") = true := by decide +kernel
theorem spots_nodup {d2 d3 : Int} (h : d2 < 9) : [mkC "a" 999999999999 0, mkC "a" d2 0, mkC "c" 0 0, mkC "b" 2 (999999999999 - d3)].Nodup := by
  have ab : ¬ (Str.ofString "a" = Str.ofString "b") := by decide +kernel
  have ac : ¬ (Str.ofString "a" = Str.ofString "c") := by decide +kernel
  have cb : ¬ (Str.ofString "c" = Str.ofString "b") := by decide +kernel
  simp only [mkC, List.nodup_cons, List.mem_cons, List.not_mem_nil, Prod.mk.injEq, or_false, not_or, not_and]
  refine ⟨⟨fun _ e => by omega, fun e => absurd e ac, fun e => absurd e ab⟩, ⟨fun e => absurd e ac, fun e => absurd e ab⟩, fun e => absurd e cb, not_false, List.nodup_nil⟩
theorem c_law_large (T : Txt K mg) : Cl P w K mg base CX0 3 "_law_large" s_law_large ["_law_pool_here"] (spLarge K) := by
  refine cl_of (k := 2) T.d_law_large sc_law_large (fun vs H Q E h => ?_) (fun f cdv A outer s H vs Q E hr h => ?_)
  · obtain ⟨p, rfl, _⟩ := h
    rfl
  · obtain ⟨p, rfl, hp, q⟩ := h
    have nd := sc_law_large.nd
    refine ⟨_, (pss_cons (ps_set (i := 1) nd rfl (Or.inl rfl) (pe_tup (pa_cons (pe_tup (pa_cons pe_str (pa_cons (pe_op op_pow pe_int pe_int) (pa_cons (pe_op op_add pe_int (Lw.pe_cl (c_law_draw T) b_law_draw hr (by decide) (by rfl) pass0 (pa_cons (pv 0) (pa_cons pe_int pa_nil)))) pa_nil)))) (pa_cons (pe_tup (pa_cons pe_str (pa_cons pe_int (pa_cons (pe_op op_pow pe_int pe_int) pa_nil)))) (pa_cons (pe_tup (pa_cons pe_str (pa_cons pe_int (pa_cons pe_int pa_nil)))) pa_nil)))))
      (pss_cons (ps_set (i := 2) nd rfl (Or.inr rfl) (pe_lst (pa_cons (pe_tup (pa_cons pe_str (pa_cons (pe_op op_sub (pe_op op_pow pe_int pe_int) pe_int) (pa_cons pe_int pa_nil)))) (pa_cons (pe_tup (pa_cons pe_str (pa_cons (Lw.pe_cl (c_law_draw T) b_law_draw hr (by decide) (by rfl) pass0 (pa_cons (pv 0) (pa_cons pe_int pa_nil))) (pa_cons pe_int pa_nil)))) (pa_cons (pe_tup (pa_cons pe_str (pa_cons pe_int (pa_cons pe_int pa_nil)))) pa_nil)))))
      (pss_cons (ps_expr (pe_bm PySem.F.plainAttrs_list PySem.F.slot_list_append PySem.F.type_list_append mt_append (pv 2) (pa_cons (pe_tup (pa_cons pe_str (pa_cons pe_int (pa_cons (pe_op op_sub (pe_op op_sub (pe_op op_pow pe_int pe_int) pe_int) (Lw.pe_cl (c_law_draw T) b_law_draw hr (by decide) (by rfl) pass0 (pa_cons (pv 0) (pa_cons pe_int pa_nil)))) pa_nil)))) pa_nil)))
      (pss_cons (ps_set (i := 2) nd rfl (Or.inr rfl) (pe_lc (own := [("_law_k", 4)]) (g := gName 4) rfl nd (pi_range1 (by rfl) T.b_range (pa_cons pe_int pa_nil)) (L2.blkOk_by (N := N_law_large) (sc := defScope s_law_large) (by decide +kernel)) (fun _ _ _ _ _ => (pg_name (i := 4) nd rfl (Or.inl rfl))) (fun _ _ _ _ _ => (pts_one (pt_cmpR op_gt (Lw.pe_cl (c_law_draw T) b_law_draw hr (by decide) (by rfl) pass0 (pa_cons (pv 0) (pa_cons pe_int pa_nil))) pe_int (nomark _)))) (fun _ _ _ _ _ => (pe_ix (ix_seq : IxR _ (rIx K)) (pv 2) (pv 4) (fun _ _ => rfl)))))
      (pss_cons (ps_set (i := 2) nd rfl (Or.inr rfl) (pe_ifExp (pt_cmpR op_eq (Lw.pe_cl (c_law_draw T) b_law_draw hr (by decide) (by rfl) pass0 (pa_cons (pv 0) (pa_cons pe_int pa_nil))) pe_int (nomark _)) (pv 2) (pe_revL (pv 2))))
      (pss_cons (ps_set (i := 2) nd rfl (Or.inr rfl) (pe_ifExp (pt_cmpR (op_neD hr.units) (pv 2) (pe_lst pa_nil) (nomark _)) (pv 2) (pe_lst (pa_cons (pe_tup (pa_cons pe_str (pa_cons pe_int (pa_cons pe_int pa_nil)))) pa_nil))))
      (pss_cons (ps_set (i := 3) nd rfl (Or.inl rfl) (pe_lst (pa_cons (pe_lst (pa_cons pe_int (pa_cons pe_int (pa_cons pe_int pa_nil)))) (pa_cons (pe_lst (pa_cons pe_int (pa_cons pe_int pa_nil))) (pa_cons (pe_lst (pa_cons pe_int (pa_cons (pe_op op_pow pe_int pe_int) pa_nil))) (pa_cons (pe_lst (pa_cons pe_int pa_nil)) (pa_cons (pe_lst (pa_cons pe_int (pa_cons (pe_op op_sub (pe_op op_pow pe_int pe_int) pe_int) (pa_cons (pe_op op_pow pe_int pe_int) pa_nil)))) pa_nil)))))))
      (pss_one (ps_ret (pe_lst (pa_cons (pv 1) (pa_cons (pe_slice sl_list (pv 2) po_none (po_some pe_int)) (pa_cons (pe_ix ix_seq (pv 3) (Lw.pe_cl (c_law_draw T) b_law_draw hr (by decide) (by rfl) pass0 (pa_cons (pv 0) (pa_cons pe_int pa_nil))) (fun _ _ => rfl)) pa_nil))))))))))))), ?_⟩
    rw [show L2.start N_law_large [V.ref p] = [some (V.ref p), none, none, none, none] from rfl]
    repeat fail "st"
    intro d1 H1 e1 d10 d11
    have hp := hp.up e1
    repeat fail "st"
    intro r1 n_r1
    generalize hh : upd _ r1 _ = H_r1
    have e_r1 := newEx hh n_r1
    have h_r1 := newAt hh
    clear hh
    repeat fail "st"
    rw [show ((fun i j : Int => V.int (i ^ j.toNat)) 10 12) = V.int 1000000000000 from congrArg V.int e12]
    intro r2 n_r2
    generalize hh : upd _ r2 _ = H_r2
    have e_r2 := newEx hh n_r2
    have h_r2 := newAt hh
    clear hh
    repeat fail "st"
    intro r3 n_r3
    generalize hh : upd _ r3 _ = H_r3
    have e_r3 := newEx hh n_r3
    have h_r3 := newAt hh
    clear hh
    repeat fail "st"
    intro rm n_rm
    generalize hh : upd _ rm _ = H_rm
    have e_rm := newEx hh n_rm
    have h_rm := newAt hh
    clear hh
    have h_r1 : H_rm r1 = some (.tup [.str "a", .int 1000000000000, .int (1 + d1)]) := by
      rw [← e12]
      exact (e_r2.trans (e_r3.trans e_rm)) _ _ h_r1
    have h_r2 : H_rm r2 = some (.tup [.str "b", .int 3, .int 1000000000000]) := (e_r3.trans e_rm) _ _ h_r2
    have h_r3 : H_rm r3 = some (.tup [.str "c", .int 1, .int 1]) := e_rm _ _ h_r3
    have e_Z := e_r1.trans (e_r2.trans (e_r3.trans e_rm))
    have mkSg : ∀ G : Hp, (∀ t ys, H_rm t = some (.tup ys) → G t = some (.tup ys)) → Sg G (.ref rm) (some (roomsL (1 + d1))) := fun G gt => by
      rw [← stage_rooms (h := 1 + d1) (by omega)]
      exact Sg.tup (gt _ _ h_rm) (.cons (.tup (gt _ _ h_r1) (short3 (by decide +kernel))) (.cons (.tup (gt _ _ h_r2) (short3 (by decide +kernel))) (.cons (.tup (gt _ _ h_r3) (short3 (by decide +kernel))) .nil))) (Nat.le_of_ble_eq_true rfl)
    have eA := e1.trans (e_r1.trans (e_r2.trans (e_r3.trans e_rm)))
    have hp := hp.up (e_r1.trans (e_r2.trans (e_r3.trans e_rm)))
    have d1b : 1 ≤ 1 + d1 ∧ 1 + d1 ≤ 9 := by omega
    clear e1 e_r1 e_r2 e_r3 e_rm h_r1 h_r2 h_r3 h_rm n_r1 n_r2 n_r3 n_rm e_Z
    generalize 1 + d1 = hh at *
    clear d10 d11
    try dsimp only [List.set]
    repeat fail "st"
    intro c1 n_c1
    generalize hh : upd _ c1 _ = H_c1
    have e_c1 := newEx hh n_c1
    have h_c1 := newAt hh
    clear hh
    repeat fail "st"
    intro d2 H2 e2 d20 d21
    repeat fail "st"
    intro c2 n_c2
    generalize hh : upd _ c2 _ = H_c2
    have e_c2 := newEx hh n_c2
    have h_c2 := newAt hh
    clear hh
    repeat fail "st"
    intro c3 n_c3
    generalize hh : upd _ c3 _ = H_c3
    have e_c3 := newEx hh n_c3
    have h_c3 := newAt hh
    clear hh
    repeat fail "st"
    intro sp n_sp
    generalize hh : upd _ sp _ = H_sp
    have e_sp := newEx hh n_sp
    have h_sp := newAt hh
    clear hh
    have k1 : CellAt H_sp c1 (mkC "a" 999999999999 0) := ⟨by
      have := (e2.trans (e_c2.trans (e_c3.trans e_sp))) _ _ h_c1
      rw [e12] at this
      exact this, ok_a⟩
    have k2 : CellAt H_sp c2 (mkC "a" d2 0) := ⟨(e_c3.trans e_sp) _ _ h_c2, ok_a⟩
    have k3 : CellAt H_sp c3 (mkC "c" 0 0) := ⟨e_sp _ _ h_c3, ok_c⟩
    have eB0 := e_c1.trans (e2.trans (e_c2.trans e_c3))
    have eB := e_c1.trans (e2.trans (e_c2.trans (e_c3.trans e_sp)))
    have hp := hp.up eB
    have mkSg := fun G (gt : ∀ t ys, H_sp t = some (.tup ys) → G t = some (.tup ys)) => mkSg G fun t ys h => gt t ys (eB _ _ h)
    have nsp := ex_no eA (ex_no eB0 n_sp)
    have eA := eA.trans eB
    clear h_c1 h_c2 h_c3 e_c1 e2 e_c2 e_c3 e_sp eB eB0 n_c1 n_c2 n_c3
    try dsimp only [List.set]
    repeat fail "st"
    refine ⟨.inl ⟨rfl, _, SqL.of h_sp⟩, ?_⟩
    repeat fail "st"
    intro d3 H3 e3 d30 d31
    have h_sp3 := e3 _ _ h_sp
    repeat fail "st"
    intro c4 n_c4
    generalize hh : upd _ c4 _ = H_c4
    have e_c4 := newEx hh n_c4
    have h_c4 := newAt hh
    clear hh
    have h_sp4 := e_c4 _ _ h_sp3
    have k1 := k1.up (e3.trans e_c4)
    have k2 := k2.up (e3.trans e_c4)
    have k3 := k3.up (e3.trans e_c4)
    have k4 : CellAt H_c4 c4 (mkC "b" 2 (999999999999 - d3)) := ⟨by
      rw [e12] at h_c4
      exact h_c4, ok_b⟩
    have hp := hp.up (e3.trans e_c4)
    have mkSg := fun G (gt : ∀ t ys, H_c4 t = some (.tup ys) → G t = some (.tup ys)) => mkSg G fun t ys h => gt t ys ((e3.trans e_c4) _ _ h)
    have eC := e3.trans e_c4
    refine ⟨_, _, _, rfl, rfl, h_sp4, (by show 3 < _; exact Nat.lt_of_lt_of_le (by decide) Lw.line_ge), ?_⟩
    generalize hh : upd _ sp _ = H5
    have b_sp := mutBut hh
    have h_sp := newAt hh
    clear hh
    have h_sp5 : H5 sp = some (.lst ([c1, c2, c3, c4].map V.ref)) := h_sp
    have cells : Cells H5 [c1, c2, c3, c4] [mkC "a" 999999999999 0, mkC "a" d2 0, mkC "c" 0 0, mkC "b" 2 (999999999999 - d3)] := .cons (k1.but b_sp h_sp4) (.cons (k2.but b_sp h_sp4) (.cons (k3.but b_sp h_sp4) (.cons (k4.but b_sp h_sp4) .nil)))
    have sg := mkSg H5 fun t ys h => tup_but b_sp h_sp4 h
    have eA : Ex H H5 := But.ex (eA.trans eC) nsp b_sp
    have hp1 : H_c4 p = some (.ext (poolP p)) := hp
    have hp : Pool H5 p := b_sp _ _ (fun z => by rw [z, h_sp4] at hp1; cases hp1) hp
    clear hp1
    have nod := spots_nodup (d2 := d2) (d3 := d3) d21
    have onl : ∀ k ∈ [mkC "a" 999999999999 0, mkC "a" d2 0, mkC "c" 0 0, mkC "b" 2 (999999999999 - d3)], OnL k := fun k m => by
      simp only [List.mem_cons, List.not_mem_nil, or_false] at m
      rcases m with rfl | rfl | rfl | rfl
      · exact .inl rfl
      · exact .inr (.inl ⟨d2, d20, d21, rfl⟩)
      · exact .inr (.inr (.inl rfl))
      · exact .inr (.inr (.inr (.inl ⟨d3, d30, d31, rfl⟩)))
    clear mkSg k1 k2 k3 k4 eC b_sp h_sp4 h_sp3 h_sp e3 e_c4 h_c4 n_c4 d20 d21 d30 d31
    generalize [mkC "a" 999999999999 0, mkC "a" d2 0, mkC "c" 0 0, mkC "b" 2 (999999999999 - d3)] = ks at *
    repeat fail "st"
    intro D hD
    refine lcR (fun i o _ => ∃ a, [c1, c2, c3, c4][i]? = some a ∧ (o = none ∨ o = some (V.ref a))) (fun _ _ _ _ _ h => h) hD (n := 4) (by decide) (fun i hi G eG Q1 Q2 q1 q2 => ?_) (fun H6 os e6 hl6 hD6 hp6 => ?_)
    · have hpG := hp.up eG
      have hspG := eG _ _ h_sp5
      have hi4 : i < [c1, c2, c3, c4].length := hi
      have gi := List.getElem?_eq_getElem hi4
      refine ⟨rfl, ?_⟩
      repeat fail "st"
      intro dd Hd ed dd0 dd1
      have hspG := ed _ _ hspG
      repeat fail "st"
      refine ifD (fun hb => ?_) (fun hb => ?_)
      · repeat fail "st"
        show rIx K _ _ _ _
        refine ixL_at (K := K) (j := i) (SqL.of hspG) (by omega) (by rw [List.getElem?_map, gi]; rfl) ?_
        exact q1 _ _ ed ⟨_, gi, .inr rfl⟩
      · exact q2 _ ed ⟨_, gi, .inl rfl⟩
    obtain ⟨B, sB, eB⟩ := sift_sub (f := V.ref) (xs := [c1, c2, c3, c4]) hl6 hp6
    rw [eB] at hD6
    obtain ⟨S, sS, cB⟩ := pr_sub sB cells
    have cB := Cells.up e6 cB
    have hp := hp.up e6
    have sg := sg.up e6
    have eA := eA.trans e6
    have nod := sS.nodup nod
    have onl : ∀ k ∈ S, OnL k := fun k m => onl k (sS.subset m)
    clear hp6 hl6 eB e6 h_sp5 cells sS sB hD
    try dsimp only [List.set]
    repeat fail "st"
    intro dv H7 e7 _ _
    have hD6 := e7 _ _ hD6
    have cB := Cells.up e7 cB
    have hp := hp.up e7
    have sg := sg.up e7
    have eA := eA.trans e7
    clear e7
    repeat fail "st"
    refine ifD (fun hc => ?_) (fun hc => ?_)
    · clear hc
      repeat fail "st"
      try dsimp only [List.set]
      repeat fail "st"
      intro e0 n_e0
      generalize hh : upd _ e0 _ = H_e0
      have e_e0 := newEx hh n_e0
      have h_e0 := newAt hh
      clear hh
      have hD6 := e_e0 _ _ hD6
      have cB := Cells.up e_e0 cB
      have hp := hp.up e_e0
      have sg := sg.up e_e0
      have eA := eA.trans e_e0
      refine ne_cells hD6 cB h_e0 ?_
      clear e_e0 h_e0 n_e0
      repeat fail "st"
      refine ifNt (fun z => ?_) (fun z => ?_)
      · have ne : S ≠ [] := of_decide_eq_false z
        repeat fail "st"
        try dsimp only [List.set]
        repeat fail "st"
        intro m0 n_m0
        generalize hh : upd _ m0 _ = H_m0
        have e_m0 := newEx hh n_m0
        have h_m0 := newAt hh
        clear hh
        repeat fail "st"
        intro m1 n_m1
        generalize hh : upd _ m1 _ = H_m1
        have e_m1 := newEx hh n_m1
        have h_m1 := newAt hh
        clear hh
        repeat fail "st"
        intro m2 n_m2
        generalize hh : upd _ m2 _ = H_m2
        have e_m2 := newEx hh n_m2
        have h_m2 := newAt hh
        clear hh
        repeat fail "st"
        intro m3 n_m3
        generalize hh : upd _ m3 _ = H_m3
        have e_m3 := newEx hh n_m3
        have h_m3 := newAt hh
        clear hh
        repeat fail "st"
        intro m4 n_m4
        generalize hh : upd _ m4 _ = H_m4
        have e_m4 := newEx hh n_m4
        have h_m4 := newAt hh
        clear hh
        repeat fail "st"
        intro mn n_mn
        generalize hh : upd _ mn _ = H_mn
        have e_mn := newEx hh n_mn
        have h_mn := newAt hh
        clear hh
        have hm : Paired (fun (a : Addr) (c : List Int) => H_mn a = some (.lst (c.map V.int))) [m0, m1, m2, m3, m4] menuL := by
          dsimp only at h_m2 h_m4
          rw [e9b] at h_m2 h_m4
          exact .cons ((e_m1.trans (e_m2.trans (e_m3.trans (e_m4.trans e_mn)))) _ _ h_m0) (.cons ((e_m2.trans (e_m3.trans (e_m4.trans e_mn))) _ _ h_m1) (.cons ((e_m3.trans (e_m4.trans e_mn)) _ _ h_m2) (.cons ((e_m4.trans e_mn) _ _ h_m3) (.cons (e_mn _ _ h_m4) .nil))))
        have eD := e_m0.trans (e_m1.trans (e_m2.trans (e_m3.trans (e_m4.trans e_mn))))
        have hD6 := eD _ _ hD6
        have cB := Cells.up eD cB
        have hp := hp.up eD
        have sg := sg.up eD
        have eA := eA.trans eD
        clear e_m0 e_m1 e_m2 e_m3 e_m4 e_mn eD h_m0 h_m1 h_m2 h_m3 h_m4 n_m0 n_m1 n_m2 n_m3 n_m4 n_mn
        try dsimp only [List.set]
        repeat fail "st"
        intro sl n_sl
        generalize hh : upd _ sl _ = H_sl
        have e_sl := newEx hh n_sl
        have h_sl := newAt hh
        clear hh
        rw [cut3, ← List.map_take] at h_sl
        have cB := pr_take 3 (Cells.up e_sl cB)
        have hp := hp.up e_sl
        have sg := sg.up e_sl
        have eA := eA.trans e_sl
        repeat fail "st"
        intro dq Hq eq dq0 dq1
        obtain ⟨j, rfl⟩ := Int.eq_ofNat_of_zero_le dq0
        have hj : j < [m0, m1, m2, m3, m4].length := by show j < 5; omega
        have gj := List.getElem?_eq_getElem hj
        obtain ⟨C, hC, hmC⟩ := paired_at hm gj
        have h_mn := (e_sl.trans eq) _ _ h_mn
        repeat fail "st"
        show rIx K _ _ _ _
        refine ixL_at (K := K) (j := j) (xs := [m0, m1, m2, m3, m4].map V.ref) (SqL.of h_mn) rfl (by rw [List.getElem?_map, gj]; rfl) ?_
        repeat fail "st"
        intro t n_t
        generalize hh : upd _ t _ = H_t
        have e_t := newEx hh n_t
        have h_t := newAt hh
        clear hh
        exact q t rm sl _ _ _ _ C _ (eA.trans (eq.trans e_t)) h_t d1b (sg.up (eq.trans e_t)) ((eq.trans e_t) _ _ h_sl) (Cells.up (eq.trans e_t) cB) (by rw [Ne, List.take_eq_nil_iff]; exact fun z => z.elim (by decide) ne) (by rw [List.length_take]; omega) ((List.take_sublist _ _).nodup nod) (fun k m => onl k ((List.take_sublist _ _).subset m)) ((e_sl.trans (eq.trans e_t)) _ _ hmC) (List.mem_of_getElem? hC)
      · clear cB nod onl z
        repeat fail "st"
        intro b0 n_b0
        generalize hh : upd _ b0 _ = H_b0
        have e_b0 := newEx hh n_b0
        have h_b0 := newAt hh
        clear hh
        repeat fail "st"
        intro b1 n_b1
        generalize hh : upd _ b1 _ = H_b1
        have e_b1 := newEx hh n_b1
        have h_b1 := newAt hh
        clear hh
        have hD6 : H_b1 b1 = some (.lst ([b0].map V.ref)) := h_b1
        have cB : Cells H_b1 [b0] [mkC "b" 0 0] := .cons ⟨e_b1 _ _ h_b0, ok_b⟩ .nil
        have nod : [mkC "b" 0 0].Nodup := List.nodup_cons.mpr ⟨by simp, List.nodup_nil⟩
        have onl : ∀ k ∈ [mkC "b" 0 0], OnL k := fun k m => by
          rw [List.mem_singleton] at m
          exact .inr (.inr (.inr (.inr m)))
        have ne : [mkC "b" 0 0] ≠ [] := by simp
        have hp := hp.up (e_b0.trans e_b1)
        have sg := sg.up (e_b0.trans e_b1)
        have eA := eA.trans (e_b0.trans e_b1)
        clear h_b1 h_b0 e_b0 e_b1 n_b0 n_b1
        generalize [mkC "b" 0 0] = S at *
        repeat fail "st"
        try dsimp only [List.set]
        repeat fail "st"
        intro m0 n_m0
        generalize hh : upd _ m0 _ = H_m0
        have e_m0 := newEx hh n_m0
        have h_m0 := newAt hh
        clear hh
        repeat fail "st"
        intro m1 n_m1
        generalize hh : upd _ m1 _ = H_m1
        have e_m1 := newEx hh n_m1
        have h_m1 := newAt hh
        clear hh
        repeat fail "st"
        intro m2 n_m2
        generalize hh : upd _ m2 _ = H_m2
        have e_m2 := newEx hh n_m2
        have h_m2 := newAt hh
        clear hh
        repeat fail "st"
        intro m3 n_m3
        generalize hh : upd _ m3 _ = H_m3
        have e_m3 := newEx hh n_m3
        have h_m3 := newAt hh
        clear hh
        repeat fail "st"
        intro m4 n_m4
        generalize hh : upd _ m4 _ = H_m4
        have e_m4 := newEx hh n_m4
        have h_m4 := newAt hh
        clear hh
        repeat fail "st"
        intro mn n_mn
        generalize hh : upd _ mn _ = H_mn
        have e_mn := newEx hh n_mn
        have h_mn := newAt hh
        clear hh
        have hm : Paired (fun (a : Addr) (c : List Int) => H_mn a = some (.lst (c.map V.int))) [m0, m1, m2, m3, m4] menuL := by
          dsimp only at h_m2 h_m4
          rw [e9b] at h_m2 h_m4
          exact .cons ((e_m1.trans (e_m2.trans (e_m3.trans (e_m4.trans e_mn)))) _ _ h_m0) (.cons ((e_m2.trans (e_m3.trans (e_m4.trans e_mn))) _ _ h_m1) (.cons ((e_m3.trans (e_m4.trans e_mn)) _ _ h_m2) (.cons ((e_m4.trans e_mn) _ _ h_m3) (.cons (e_mn _ _ h_m4) .nil))))
        have eD := e_m0.trans (e_m1.trans (e_m2.trans (e_m3.trans (e_m4.trans e_mn))))
        have hD6 := eD _ _ hD6
        have cB := Cells.up eD cB
        have hp := hp.up eD
        have sg := sg.up eD
        have eA := eA.trans eD
        clear e_m0 e_m1 e_m2 e_m3 e_m4 e_mn eD h_m0 h_m1 h_m2 h_m3 h_m4 n_m0 n_m1 n_m2 n_m3 n_m4 n_mn
        try dsimp only [List.set]
        repeat fail "st"
        intro sl n_sl
        generalize hh : upd _ sl _ = H_sl
        have e_sl := newEx hh n_sl
        have h_sl := newAt hh
        clear hh
        rw [cut3, ← List.map_take] at h_sl
        have cB := pr_take 3 (Cells.up e_sl cB)
        have hp := hp.up e_sl
        have sg := sg.up e_sl
        have eA := eA.trans e_sl
        repeat fail "st"
        intro dq Hq eq dq0 dq1
        obtain ⟨j, rfl⟩ := Int.eq_ofNat_of_zero_le dq0
        have hj : j < [m0, m1, m2, m3, m4].length := by show j < 5; omega
        have gj := List.getElem?_eq_getElem hj
        obtain ⟨C, hC, hmC⟩ := paired_at hm gj
        have h_mn := (e_sl.trans eq) _ _ h_mn
        repeat fail "st"
        show rIx K _ _ _ _
        refine ixL_at (K := K) (j := j) (xs := [m0, m1, m2, m3, m4].map V.ref) (SqL.of h_mn) rfl (by rw [List.getElem?_map, gj]; rfl) ?_
        repeat fail "st"
        intro t n_t
        generalize hh : upd _ t _ = H_t
        have e_t := newEx hh n_t
        have h_t := newAt hh
        clear hh
        exact q t rm sl _ _ _ _ C _ (eA.trans (eq.trans e_t)) h_t d1b (sg.up (eq.trans e_t)) ((eq.trans e_t) _ _ h_sl) (Cells.up (eq.trans e_t) cB) (by rw [Ne, List.take_eq_nil_iff]; exact fun z => z.elim (by decide) ne) (by rw [List.length_take]; omega) ((List.take_sublist _ _).nodup nod) (fun k m => onl k ((List.take_sublist _ _).subset m)) ((e_sl.trans (eq.trans e_t)) _ _ hmC) (List.mem_of_getElem? hC)
    · clear hc
      repeat fail "st"
      intro R n_R
      generalize hh : upd _ R _ = H_R
      have e_R := newEx hh n_R
      have h_R := newAt hh
      clear hh
      rw [← List.map_reverse] at h_R
      have cB := pr_rev (Cells.up e_R cB)
      have nod : S.reverse.Nodup := (List.reverse_perm S).nodup_iff.mpr nod
      have onl : ∀ k ∈ S.reverse, OnL k := fun k m => onl k (List.mem_reverse.mp m)
      have hp := hp.up e_R
      have sg := sg.up e_R
      have eA := eA.trans e_R
      clear e_R hD6 n_R
      generalize S.reverse = S at *
      generalize B.reverse = B at *
      repeat fail "st"
      try dsimp only [List.set]
      repeat fail "st"
      intro e0 n_e0
      generalize hh : upd _ e0 _ = H_e0
      have e_e0 := newEx hh n_e0
      have h_e0 := newAt hh
      clear hh
      have h_R := e_e0 _ _ h_R
      have cB := Cells.up e_e0 cB
      have hp := hp.up e_e0
      have sg := sg.up e_e0
      have eA := eA.trans e_e0
      refine ne_cells h_R cB h_e0 ?_
      clear e_e0 h_e0 n_e0
      repeat fail "st"
      refine ifNt (fun z => ?_) (fun z => ?_)
      · have ne : S ≠ [] := of_decide_eq_false z
        repeat fail "st"
        try dsimp only [List.set]
        repeat fail "st"
        intro m0 n_m0
        generalize hh : upd _ m0 _ = H_m0
        have e_m0 := newEx hh n_m0
        have h_m0 := newAt hh
        clear hh
        repeat fail "st"
        intro m1 n_m1
        generalize hh : upd _ m1 _ = H_m1
        have e_m1 := newEx hh n_m1
        have h_m1 := newAt hh
        clear hh
        repeat fail "st"
        intro m2 n_m2
        generalize hh : upd _ m2 _ = H_m2
        have e_m2 := newEx hh n_m2
        have h_m2 := newAt hh
        clear hh
        repeat fail "st"
        intro m3 n_m3
        generalize hh : upd _ m3 _ = H_m3
        have e_m3 := newEx hh n_m3
        have h_m3 := newAt hh
        clear hh
        repeat fail "st"
        intro m4 n_m4
        generalize hh : upd _ m4 _ = H_m4
        have e_m4 := newEx hh n_m4
        have h_m4 := newAt hh
        clear hh
        repeat fail "st"
        intro mn n_mn
        generalize hh : upd _ mn _ = H_mn
        have e_mn := newEx hh n_mn
        have h_mn := newAt hh
        clear hh
        have hm : Paired (fun (a : Addr) (c : List Int) => H_mn a = some (.lst (c.map V.int))) [m0, m1, m2, m3, m4] menuL := by
          dsimp only at h_m2 h_m4
          rw [e9b] at h_m2 h_m4
          exact .cons ((e_m1.trans (e_m2.trans (e_m3.trans (e_m4.trans e_mn)))) _ _ h_m0) (.cons ((e_m2.trans (e_m3.trans (e_m4.trans e_mn))) _ _ h_m1) (.cons ((e_m3.trans (e_m4.trans e_mn)) _ _ h_m2) (.cons ((e_m4.trans e_mn) _ _ h_m3) (.cons (e_mn _ _ h_m4) .nil))))
        have eD := e_m0.trans (e_m1.trans (e_m2.trans (e_m3.trans (e_m4.trans e_mn))))
        have h_R := eD _ _ h_R
        have cB := Cells.up eD cB
        have hp := hp.up eD
        have sg := sg.up eD
        have eA := eA.trans eD
        clear e_m0 e_m1 e_m2 e_m3 e_m4 e_mn eD h_m0 h_m1 h_m2 h_m3 h_m4 n_m0 n_m1 n_m2 n_m3 n_m4 n_mn
        try dsimp only [List.set]
        repeat fail "st"
        intro sl n_sl
        generalize hh : upd _ sl _ = H_sl
        have e_sl := newEx hh n_sl
        have h_sl := newAt hh
        clear hh
        rw [cut3, ← List.map_take] at h_sl
        have cB := pr_take 3 (Cells.up e_sl cB)
        have hp := hp.up e_sl
        have sg := sg.up e_sl
        have eA := eA.trans e_sl
        repeat fail "st"
        intro dq Hq eq dq0 dq1
        obtain ⟨j, rfl⟩ := Int.eq_ofNat_of_zero_le dq0
        have hj : j < [m0, m1, m2, m3, m4].length := by show j < 5; omega
        have gj := List.getElem?_eq_getElem hj
        obtain ⟨C, hC, hmC⟩ := paired_at hm gj
        have h_mn := (e_sl.trans eq) _ _ h_mn
        repeat fail "st"
        show rIx K _ _ _ _
        refine ixL_at (K := K) (j := j) (xs := [m0, m1, m2, m3, m4].map V.ref) (SqL.of h_mn) rfl (by rw [List.getElem?_map, gj]; rfl) ?_
        repeat fail "st"
        intro t n_t
        generalize hh : upd _ t _ = H_t
        have e_t := newEx hh n_t
        have h_t := newAt hh
        clear hh
        exact q t rm sl _ _ _ _ C _ (eA.trans (eq.trans e_t)) h_t d1b (sg.up (eq.trans e_t)) ((eq.trans e_t) _ _ h_sl) (Cells.up (eq.trans e_t) cB) (by rw [Ne, List.take_eq_nil_iff]; exact fun z => z.elim (by decide) ne) (by rw [List.length_take]; omega) ((List.take_sublist _ _).nodup nod) (fun k m => onl k ((List.take_sublist _ _).subset m)) ((e_sl.trans (eq.trans e_t)) _ _ hmC) (List.mem_of_getElem? hC)
      · clear cB nod onl z
        repeat fail "st"
        intro b0 n_b0
        generalize hh : upd _ b0 _ = H_b0
        have e_b0 := newEx hh n_b0
        have h_b0 := newAt hh
        clear hh
        repeat fail "st"
        intro b1 n_b1
        generalize hh : upd _ b1 _ = H_b1
        have e_b1 := newEx hh n_b1
        have h_b1 := newAt hh
        clear hh
        have h_R : H_b1 b1 = some (.lst ([b0].map V.ref)) := h_b1
        have cB : Cells H_b1 [b0] [mkC "b" 0 0] := .cons ⟨e_b1 _ _ h_b0, ok_b⟩ .nil
        have nod : [mkC "b" 0 0].Nodup := List.nodup_cons.mpr ⟨by simp, List.nodup_nil⟩
        have onl : ∀ k ∈ [mkC "b" 0 0], OnL k := fun k m => by
          rw [List.mem_singleton] at m
          exact .inr (.inr (.inr (.inr m)))
        have ne : [mkC "b" 0 0] ≠ [] := by simp
        have hp := hp.up (e_b0.trans e_b1)
        have sg := sg.up (e_b0.trans e_b1)
        have eA := eA.trans (e_b0.trans e_b1)
        clear h_b1 h_b0 e_b0 e_b1 n_b0 n_b1
        generalize [mkC "b" 0 0] = S at *
        repeat fail "st"
        try dsimp only [List.set]
        repeat fail "st"
        intro m0 n_m0
        generalize hh : upd _ m0 _ = H_m0
        have e_m0 := newEx hh n_m0
        have h_m0 := newAt hh
        clear hh
        repeat fail "st"
        intro m1 n_m1
        generalize hh : upd _ m1 _ = H_m1
        have e_m1 := newEx hh n_m1
        have h_m1 := newAt hh
        clear hh
        repeat fail "st"
        intro m2 n_m2
        generalize hh : upd _ m2 _ = H_m2
        have e_m2 := newEx hh n_m2
        have h_m2 := newAt hh
        clear hh
        repeat fail "st"
        intro m3 n_m3
        generalize hh : upd _ m3 _ = H_m3
        have e_m3 := newEx hh n_m3
        have h_m3 := newAt hh
        clear hh
        repeat fail "st"
        intro m4 n_m4
        generalize hh : upd _ m4 _ = H_m4
        have e_m4 := newEx hh n_m4
        have h_m4 := newAt hh
        clear hh
        repeat fail "st"
        intro mn n_mn
        generalize hh : upd _ mn _ = H_mn
        have e_mn := newEx hh n_mn
        have h_mn := newAt hh
        clear hh
        have hm : Paired (fun (a : Addr) (c : List Int) => H_mn a = some (.lst (c.map V.int))) [m0, m1, m2, m3, m4] menuL := by
          dsimp only at h_m2 h_m4
          rw [e9b] at h_m2 h_m4
          exact .cons ((e_m1.trans (e_m2.trans (e_m3.trans (e_m4.trans e_mn)))) _ _ h_m0) (.cons ((e_m2.trans (e_m3.trans (e_m4.trans e_mn))) _ _ h_m1) (.cons ((e_m3.trans (e_m4.trans e_mn)) _ _ h_m2) (.cons ((e_m4.trans e_mn) _ _ h_m3) (.cons (e_mn _ _ h_m4) .nil))))
        have eD := e_m0.trans (e_m1.trans (e_m2.trans (e_m3.trans (e_m4.trans e_mn))))
        have h_R := eD _ _ h_R
        have cB := Cells.up eD cB
        have hp := hp.up eD
        have sg := sg.up eD
        have eA := eA.trans eD
        clear e_m0 e_m1 e_m2 e_m3 e_m4 e_mn eD h_m0 h_m1 h_m2 h_m3 h_m4 n_m0 n_m1 n_m2 n_m3 n_m4 n_mn
        try dsimp only [List.set]
        repeat fail "st"
        intro sl n_sl
        generalize hh : upd _ sl _ = H_sl
        have e_sl := newEx hh n_sl
        have h_sl := newAt hh
        clear hh
        rw [cut3, ← List.map_take] at h_sl
        have cB := pr_take 3 (Cells.up e_sl cB)
        have hp := hp.up e_sl
        have sg := sg.up e_sl
        have eA := eA.trans e_sl
        repeat fail "st"
        intro dq Hq eq dq0 dq1
        obtain ⟨j, rfl⟩ := Int.eq_ofNat_of_zero_le dq0
        have hj : j < [m0, m1, m2, m3, m4].length := by show j < 5; omega
        have gj := List.getElem?_eq_getElem hj
        obtain ⟨C, hC, hmC⟩ := paired_at hm gj
        have h_mn := (e_sl.trans eq) _ _ h_mn
        repeat fail "st"
        show rIx K _ _ _ _
        refine ixL_at (K := K) (j := j) (xs := [m0, m1, m2, m3, m4].map V.ref) (SqL.of h_mn) rfl (by rw [List.getElem?_map, gj]; rfl) ?_
        repeat fail "st"
        intro t n_t
        generalize hh : upd _ t _ = H_t
        have e_t := newEx hh n_t
        have h_t := newAt hh
        clear hh
        exact q t rm sl _ _ _ _ C _ (eA.trans (eq.trans e_t)) h_t d1b (sg.up (eq.trans e_t)) ((eq.trans e_t) _ _ h_sl) (Cells.up (eq.trans e_t) cB) (by rw [Ne, List.take_eq_nil_iff]; exact fun z => z.elim (by decide) ne) (by rw [List.length_take]; omega) ((List.take_sublist _ _).nodup nod) (fun k m => onl k ((List.take_sublist _ _).subset m)) ((e_sl.trans (eq.trans e_t)) _ _ hmC) (List.mem_of_getElem? hC)
end

end K45
namespace K45
open PySem PySem.Spec PyProof.Rows L2 Evl Lw
section
variable {P : Program} {w : World} {K : PySem.W.Frag} {mg : Str → Option Value} {base : Heap}
def szb : Nat → Nat
  | 0 => 1
  | n + 1 => 4 * szb n + 4
def spForm (n : Nat) : Sp := fun vs H Q _ => ∃ (p sa ca : Addr) (i : Int) (m : Nat) (as : List Addr) (S : List Cell) (C : List Int), vs = [.ref p, .ref sa, .ref ca, .int i] ∧ i = (m : Int) ∧ m < n ∧ Pool H p ∧ H sa = some (.lst (as.map V.ref)) ∧ Cells H as S ∧ S ≠ [] ∧ S.length ≤ 3 ∧ H ca = some (.lst (C.map V.int)) ∧ C ≠ [] ∧ C.length ≤ 3 ∧ C.Pairwise (· < ·) ∧
  ∀ v f H', Ex H H' → FormAt H' v f → Fo.Ok (fun c => c ∈ C) (fun k => k ∈ S) (fun k => k ∈ S) f → dpF f ≤ m + 1 → szF f ≤ szb m → Q v H'
/-- a branch that is drawn -/
def RowD (C : List Int) (S : List Cell) (m : Nat) (rs : List Int) (i : Nat) (y : V) (H : Hp) : Prop := ∃ p v c f, y = V.ref p ∧ rs[i]? = some c ∧ H p = some (.tup [.int c, v]) ∧ FormAt H v f ∧ Fo.Ok (fun c => c ∈ C) (fun k => k ∈ S) (fun k => k ∈ S) f ∧ dpF f ≤ m + 1 ∧ szF f ≤ szb m
theorem RowD.ext {C : List Int} {S : List Cell} {m : Nat} {rs : List Int} (i : Nat) (y : V) (H H' : Hp) (e : ExT H H') (h : RowD C S m rs i y H) : RowD C S m rs i y H' := by
  obtain ⟨p, v, c, f, e1, e2, e3, e4, e5⟩ := h
  exact ⟨p, v, c, f, e1, e2, e p _ (fun xs z => by cases z) e3, e4.keep (fun a ys h => e a _ (fun xs z => by cases z) h) (fun a b ys h => e a _ (fun xs z => by cases z) h), e5⟩
theorem rowD_rows {C : List Int} {S : List Cell} {m : Nat} {H : Hp} : ∀ {ys : List V} {rs : List Int}, ys.length = rs.length → (∀ c ∈ rs, c ∈ C) → (∀ (i : Nat) (y : V), ys[i]? = some y → RowD C S m rs i y H) →
    ∃ r : Fo.Rows Cell, RowsAt H ys r ∧ Fo.OkR (fun c => c ∈ C) (fun k => k ∈ S) (fun k => k ∈ S) r ∧ Fo.cols r = rs ∧ dpR r ≤ m + 1 ∧ szR r ≤ rs.length * (1 + szb m)
  | [], [], _, _, _ => ⟨.nil, .nil, trivial, rfl, Nat.zero_le _, Nat.zero_le _⟩
  | [], _ :: _, h, _, _ => nomatch h
  | _ :: _, [], h, _, _ => nomatch h
  | y :: ys, c :: rs, hl, hc, h => by
    obtain ⟨r, a, b, d, e, g⟩ := rowD_rows (ys := ys) (rs := rs) (Nat.succ.inj hl) (fun c m => hc c (List.mem_cons_of_mem _ m)) fun i y q => h (i + 1) y q
    obtain ⟨p, v, c', f, rfl, ec, hp, hf, ok, f1, f2⟩ := h 0 y rfl
    obtain rfl : c = c' := Option.some.inj ec
    refine ⟨.cons c f r, .cons hp hf a, ⟨hc c List.mem_cons_self, ok, b⟩, by show c :: Fo.cols r = _; rw [d], Nat.max_le.mpr ⟨f1, e⟩, ?_⟩
    show 1 + (szF f + szR r) ≤ (rs.length + 1) * (1 + szb m)
    rw [Nat.succ_mul]
    omega
theorem ne_ints {H : Hp} {a l : Addr} {ks : List Int} {Q : VK} (hl : H a = some (.lst (ks.map V.int))) (hn : H l = some (.lst [])) (q : Q (.bl (!decide (ks = []))) H) : rNeD K (.ref a) (.ref l) H Q := by
  have dp : ∀ xs : List Int, DpAll K H (xs.map V.int) (xs.map PyData.int) := fun xs => by
    induction xs with
    | nil => exact .nil
    | cons x xs ih => exact .cons (.int x) ih
  have lay : ∀ xs : List Int, PyData.canLayAll0 (xs.map PyData.int) = true ∧ PyData.depthAll (xs.map PyData.int) = 0 := fun xs => by
    induction xs with
    | nil => exact ⟨rfl, rfl⟩
    | cons x xs ih =>
      obtain ⟨a, b⟩ := ih
      refine ⟨?_, ?_⟩
      · show (PyData.canLay0 (.int x) && _) = true
        rw [a]
        rfl
      · show max 0 (PyData.depthAll _) = 0
        rw [b]
        rfl
  refine ⟨_, _, .lst (SqL.of hl) (dp ks), .lst (SqL.of hn) .nil, ?_, rfl, ?_⟩
  · unfold SeqAt.shaped
    rw [Bool.and_eq_true]
    refine ⟨(lay ks).1, decide_eq_true ?_⟩
    show PyData.depthAll _ + 1 ≤ 64
    rw [(lay ks).2]
    decide
  · rw [show PyData.eqv (.list (ks.map PyData.int)) (.list []) = decide (ks = []) from by cases ks <;> rfl]
    exact q
theorem st_law_form (T : Txt K mg) (n : Nat) (ih_law_form : Cl P w K mg base CX0 (n + 1) "_law_form" s_law_form ["_law_pool_here", "_law_spots", "_law_colours", "_law_deep"] (spForm n)) : Cl P w K mg base CX0 (n + 2) "_law_form" s_law_form ["_law_pool_here", "_law_spots", "_law_colours", "_law_deep"] (spForm (n + 1)) := by
  refine cl_of (k := n + 1) T.d_law_form sc_law_form (fun vs H Q E h => ?_) (fun f cdv A outer s H vs Q E hr h => ?_)
  · obtain ⟨p, sa, ca, i, m, as, S, C, rfl, _⟩ := h
    rfl
  · obtain ⟨p, sa, ca, i, m, as, S, C, rfl, hi, hm, hp, hS, cS, neS, lS, hC, neC, lC, pw, q⟩ := h
    have nd := sc_law_form.nd
    refine ⟨_, (pss_cons (ps_set (i := 4) nd rfl (Or.inl rfl) (pe_ifExp (pt_cmpR op_gt (pv 3) pe_int (nomark _)) (Lw.pe_cl (c_law_draw T) b_law_draw hr (by omega) (by rfl) pass0 (pa_cons (pv 0) (pa_cons pe_int pa_nil))) (Lw.pe_cl (c_law_draw T) b_law_draw hr (by omega) (by rfl) pass0 (pa_cons (pv 0) (pa_cons pe_int pa_nil)))))
      (pss_cons (ps_if (pt_cmpR op_eq (pv 4) pe_int (nomark _)) (pss_one (ps_ret (pe_tup (pa_cons pe_str (pa_cons (pe_ix ix_seq (pv 2) (Lw.pe_cl (c_law_draw T) b_law_draw hr (by omega) (by rfl) pass0 (pa_cons (pv 0) (pa_cons (pe_callB (call_len) (by rfl) T.b_len bt_len (pa_cons (pv 2) pa_nil)) pa_nil))) (fun _ _ => rfl)) pa_nil))))) pss_nil)
      (pss_cons (ps_set (i := 5) nd rfl (Or.inl rfl) (pe_ix ix_seq (pv 1) (Lw.pe_cl (c_law_draw T) b_law_draw hr (by omega) (by rfl) pass0 (pa_cons (pv 0) (pa_cons (pe_callB (call_len) (by rfl) T.b_len bt_len (pa_cons (pv 1) pa_nil)) pa_nil))) (fun _ _ => rfl)))
      (pss_cons (ps_if (pt_cmpR op_eq (pv 4) pe_int (nomark _)) (pss_one (ps_ret (pe_tup (pa_cons pe_str (pa_cons (pv 5) pa_nil))))) pss_nil)
      (pss_cons (ps_setLc (own := [("_law_colour", 8)]) (g := gName 8) (i := 6) rfl nd rfl rfl (sw_true rfl rfl rfl (by decide +kernel)) (pi_list (pv 2)) (L2.blkOk_by (N := N_law_form) (sc := defScope s_law_form) (by decide +kernel)) (fun _ _ _ _ _ => (pg_name (i := 8) nd rfl (Or.inl rfl))) (fun _ _ _ _ _ => (pts_one (pt_cmpR op_eq (Lw.pe_cl (c_law_draw T) b_law_draw hr (by omega) (by rfl) pass0 (pa_cons (pv 0) (pa_cons pe_int pa_nil))) pe_int (nomark _)))) (fun _ _ _ _ _ => (pv 8)))
      (pss_cons (ps_set (i := 6) nd rfl (Or.inl rfl) (pe_ifExp (pt_cmpR (op_neD hr.units) (pv 6) (pe_lst pa_nil) (nomark _)) (pv 6) (pe_lst (pa_cons (pe_ix ix_seq (pv 2) pe_int (fun _ _ => rfl)) pa_nil))))
      (pss_cons (ps_setLc (own := [("_law_colour", 8)]) (g := gName 8) (tt := tYes) (i := 7) rfl nd rfl rfl (sw_true rfl rfl rfl (by decide +kernel)) (pi_list (pv 6)) (L2.blkOk_by (N := N_law_form) (sc := defScope s_law_form) (by decide +kernel)) (fun _ _ _ _ _ => (pg_name (i := 8) nd rfl (Or.inl rfl))) (fun _ _ _ _ _ => pts_nil) (fun _ _ _ _ _ => (pe_tup (pa_cons (pv 8) (pa_cons (Lw.pe_cl ih_law_form b_law_form hr (by omega) (by rfl) pass0 (pa_cons (pv 0) (pa_cons (pv 1) (pa_cons (pv 2) (pa_cons (pe_op op_sub (pv 3) pe_int) pa_nil))))) pa_nil)))))
      (pss_one (ps_ret (pe_tup (pa_cons pe_str (pa_cons (pv 5) (pa_cons (pe_callTy (Lw.cr_tupF) (by rfl) T.b_tuple bt_tuple (pa_cons (pv 7) pa_nil)) (pa_cons (Lw.pe_cl ih_law_form b_law_form hr (by omega) (by rfl) pass0 (pa_cons (pv 0) (pa_cons (pv 1) (pa_cons (pv 2) (pa_cons (pe_op op_sub (pv 3) pe_int) pa_nil))))) pa_nil)))))))))))))), ?_⟩
    rw [show L2.start N_law_form [V.ref p, V.ref sa, V.ref ca, V.int i] = [some (V.ref p), some (V.ref sa), some (V.ref ca), some (V.int i), none, none, none, none, none] from rfl]
    have las : as.length = S.length := Paired.length cS
    have S0 : 0 < S.length := List.length_pos_iff.mpr neS
    have C0 : 0 < C.length := List.length_pos_iff.mpr neC
    repeat fail "st"
    have lcm : (C.map V.int).length = C.length := List.length_map _
    have lsm : (as.map V.ref).length = S.length := by rw [List.length_map, las]
    refine ifD (fun hb => ?_) (fun hb => ?_)
    · repeat fail "st"
      intro pk H1 e1 pk0 pk1
      have hp := hp.up e1
      have hS := e1 _ _ hS
      have hC := e1 _ _ hC
      have cS := Cells.up e1 cS
      try dsimp only [List.set]
      repeat fail "st"
      refine ifD (fun h0 => ?_) (fun h0 => ?_)
      · repeat fail "st"
        intro d Hd ed d0 d1
        rw [lcm] at d1
        obtain ⟨j, rfl⟩ := Int.eq_ofNat_of_zero_le d0
        have hj : j < C.length := by omega
        have gj := List.getElem?_eq_getElem hj
        have hC := ed _ _ hC
        repeat fail "st"
        show rIx K _ _ _ _
        refine ixL_at (K := K) (j := j) (xs := C.map V.int) (SqL.of hC) rfl (by rw [List.getElem?_map, gj]; rfl) ?_
        repeat fail "st"
        intro t n_t
        generalize hh : upd _ t _ = H_t
        have e_t := newEx hh n_t
        have h_t := newAt hh
        clear hh
        exact q (.ref t) (.col C[j]) _ (e1.trans (ed.trans e_t)) (.col h_t) (List.getElem_mem hj) (by show 1 ≤ _; omega) (by show 1 ≤ _; cases m <;> simp [szb])
      repeat fail "st"
      intro dd G2 e2 dd0 dd1
      rw [lsm] at dd1
      obtain ⟨j, rfl⟩ := Int.eq_ofNat_of_zero_le dd0
      have hj : j < as.length := by omega
      have gj := List.getElem?_eq_getElem hj
      obtain ⟨k, gk, ck⟩ := paired_at (Cells.up e2 cS) gj
      have mk : k ∈ S := List.mem_of_getElem? gk
      have hS := e2 _ _ hS
      repeat fail "st"
      show rIx K _ _ _ _
      refine ixL_at (K := K) (j := j) (xs := as.map V.ref) (SqL.of hS) rfl (by rw [List.getElem?_map, gj]; rfl) ?_
      generalize as[j] = ak at *
      have hp := hp.up e2
      have hC := e2 _ _ hC
      have cS := Cells.up e2 cS
      have eA := e1.trans e2
      try dsimp only [List.set]
      repeat fail "st"
      refine ifD (fun h1 => ?_) (fun h1 => ?_)
      · repeat fail "st"
        intro t n_t
        generalize hh : upd _ t _ = H_t
        have e_t := newEx hh n_t
        have h_t := newAt hh
        clear hh
        exact q (.ref t) (.cel k) _ (eA.trans e_t) (.cel h_t (ck.up e_t)) mk (by show 1 ≤ _; omega) (by show 1 ≤ _; cases m <;> simp [szb])
      repeat fail "st"
      intro D hD
      refine lcL (K := K) (fun i o _ => ∃ a, C[i]? = some a ∧ (o = none ∨ o = some (V.int a))) (fun _ _ _ _ _ h => h) hD (SqL.of hC) (by omega) (fun i x hi G eG Q1 Q2 q1 q2 => ?_) (fun H6 os e6 hl6 hD6 hp6 => ?_)
      · have hpG := hp.up eG
        rw [List.getElem?_map] at hi
        obtain ⟨c, hc, rfl⟩ := Option.map_eq_some_iff.mp hi
        refine ⟨rfl, ?_⟩
        repeat fail "st"
        intro dq Hd ed dq0 dq1
        repeat fail "st"
        refine ifD (fun hb => ?_) (fun hb => ?_)
        · repeat fail "st"
          exact q1 _ _ ed ⟨_, hc, .inr rfl⟩
        · exact q2 _ ed ⟨_, hc, .inl rfl⟩
      obtain ⟨B, sB, eB⟩ := sift_sub (f := V.int) (xs := C) (by rw [hl6, lcm]) hp6
      rw [eB] at hD6
      obtain ⟨mm, rfl⟩ : ∃ mm, m = mm + 1 := ⟨m - 1, by omega⟩
      have hp := hp.up e6
      have hS := e6 _ _ hS
      have hC := e6 _ _ hC
      have cS := Cells.up e6 cS
      have ck := ck.up (e6)
      have eA := eA.trans e6
      have rsub : ∀ c ∈ B, c ∈ C := fun c m => sB.subset m
      have rpw := pw.sublist sB
      have rlen := sB.length_le
      clear hp6 hl6 eB e6 sB hD
      try dsimp only [List.set]
      repeat fail "st"
      intro e0 n_e0
      generalize hh : upd _ e0 _ = H_e0
      have e_e0 := newEx hh n_e0
      have h_e0 := newAt hh
      clear hh
      have hX := e_e0 _ _ hD6
      have hp := hp.up e_e0
      have hS := e_e0 _ _ hS
      have hC := e_e0 _ _ hC
      have cS := Cells.up e_e0 cS
      have ck := ck.up e_e0
      have eA := eA.trans e_e0
      refine ne_ints hX h_e0 ?_
      clear e_e0 h_e0 n_e0 hD6
      repeat fail "st"
      refine ifNt (fun z => ?_) (fun z => ?_)
      · have rne : B ≠ [] := of_decide_eq_false z
        clear z
        repeat fail "st"
        try dsimp only [List.set]
        repeat fail "st"
        intro D2 hD2
        refine lcL (K := K) (All (RowD C S mm B)) (all_mono fun i v G G' e h => RowD.ext i v G G' e h) hD2 (SqL.of hX) (by rw [List.length_map]; omega) (fun i x hi G eG Q1 Q2 q1 q2 => ?_) (fun H8 os8 e8 hl8 hD8 hp8 => ?_)
        · have hpG := hp.up eG
          have hSG := eG _ _ hS
          have hCG := eG _ _ hC
          have cSG := Cells.up eG cS
          rw [List.getElem?_map] at hi
          obtain ⟨c, hc, rfl⟩ := Option.map_eq_some_iff.mp hi
          refine ⟨rfl, ?_⟩
          repeat fail "st"
          refine ⟨p, sa, ca, _, mm, as, S, C, rfl, (by omega), (by omega), hpG, hSG, cSG, neS, lS, hCG, neC, lC, pw, fun v f H9 e9 hf ok g1 g2 => ?_⟩
          repeat fail "st"
          intro t n_t
          generalize hh : upd _ t _ = H_t
          have e_t := newEx hh n_t
          have h_t := newAt hh
          clear hh
          exact q1 _ _ (e9.trans e_t) ⟨_, rfl, t, v, c, f, rfl, hc, h_t, hf.up e_t, ok, g1, g2⟩
        obtain ⟨ys, ey, ly, hy⟩ := All.end hp8
        rw [ey] at hD8
        rw [List.length_map] at hl8
        obtain ⟨r, ra, rok, rc, rd, rz⟩ := rowD_rows (ys := ys) (rs := B) (by omega) rsub hy
        have hp := hp.up e8
        have hS := e8 _ _ hS
        have hC := e8 _ _ hC
        have cS := Cells.up e8 cS
        have ck := ck.up e8
        have eA := eA.trans e8
        clear hp8 hl8 ey ly hy e8 hD2
        try dsimp only [List.set]
        repeat fail "st"
        intro tt o nt od
        generalize hh : upd _ tt _ = H_tt
        have e_tt := newEx hh nt
        have h_tt := newAt hh
        clear hh
        have tu : Tu H_tt tt ys := ⟨o, od, h_tt⟩
        have ra := RowsAt.up e_tt ra
        have hp := hp.up e_tt
        have hS := e_tt _ _ hS
        have hC := e_tt _ _ hC
        have cS := Cells.up e_tt cS
        have ck := ck.up e_tt
        have eA := eA.trans e_tt
        clear e_tt h_tt hD8
        repeat fail "st"
        refine ⟨p, sa, ca, _, mm, as, S, C, rfl, (by omega), (by omega), hp, hS, cS, neS, lS, hC, neC, lC, pw, fun v f H9 e9 hf ok g1 g2 => ?_⟩
        repeat fail "st"
        intro t n_t
        generalize hh : upd _ t _ = H_t
        have e_t := newEx hh n_t
        have h_t := newAt hh
        clear hh
        have e10 := e9.trans e_t
        refine q (.ref t) (.ask k r f) _ (eA.trans e10) (.ask h_t (ck.up e10) (tu.up e10) (RowsAt.up e10 ra) (hf.up e_t)) ⟨mk, ⟨?_, ?_⟩, rok, ok⟩ (by show 1 + max (dpR r) (dpF f) ≤ _; omega) ?_
        · rw [rc]
          exact rne
        · rw [rc]
          exact rpw
        · show 1 + (szR r + szF f) ≤ 4 * szb mm + 4
          have : B.length * (1 + szb mm) ≤ 3 * (1 + szb mm) := Nat.mul_le_mul_right _ (by omega)
          omega
      · clear z rsub rpw rlen hX
        repeat fail "st"
        show rIx K _ _ _ _
        refine ixL_at (K := K) (j := 0) (xs := C.map V.int) (SqL.of hC) rfl (by rw [List.getElem?_map, List.getElem?_eq_getElem C0]; rfl) ?_
        repeat fail "st"
        intro b1 n_b1
        generalize hh : upd _ b1 _ = H_b1
        have e_b1 := newEx hh n_b1
        have h_b1 := newAt hh
        clear hh
        have hX : H_b1 b1 = some (.lst ([C[0]].map V.int)) := h_b1
        have rsub : ∀ c ∈ [C[0]], c ∈ C := fun c m => by
          rw [List.mem_singleton] at m
          rw [m]
          exact List.getElem_mem C0
        have rpw : [C[0]].Pairwise (· < ·) := by simp
        have rlen : [C[0]].length ≤ C.length := C0
        have rne : [C[0]] ≠ [] := by simp
        have hp := hp.up e_b1
        have hS := e_b1 _ _ hS
        have hC := e_b1 _ _ hC
        have cS := Cells.up e_b1 cS
        have ck := ck.up e_b1
        have eA := eA.trans e_b1
        clear h_b1 e_b1 n_b1
        obtain ⟨B, eB⟩ : ∃ B : List Int, B = [C[0]] := ⟨_, rfl⟩
        rw [← eB] at hX rsub rpw rlen rne
        clear eB
        repeat fail "st"
        try dsimp only [List.set]
        repeat fail "st"
        intro D2 hD2
        refine lcL (K := K) (All (RowD C S mm B)) (all_mono fun i v G G' e h => RowD.ext i v G G' e h) hD2 (SqL.of hX) (by rw [List.length_map]; omega) (fun i x hi G eG Q1 Q2 q1 q2 => ?_) (fun H8 os8 e8 hl8 hD8 hp8 => ?_)
        · have hpG := hp.up eG
          have hSG := eG _ _ hS
          have hCG := eG _ _ hC
          have cSG := Cells.up eG cS
          rw [List.getElem?_map] at hi
          obtain ⟨c, hc, rfl⟩ := Option.map_eq_some_iff.mp hi
          refine ⟨rfl, ?_⟩
          repeat fail "st"
          refine ⟨p, sa, ca, _, mm, as, S, C, rfl, (by omega), (by omega), hpG, hSG, cSG, neS, lS, hCG, neC, lC, pw, fun v f H9 e9 hf ok g1 g2 => ?_⟩
          repeat fail "st"
          intro t n_t
          generalize hh : upd _ t _ = H_t
          have e_t := newEx hh n_t
          have h_t := newAt hh
          clear hh
          exact q1 _ _ (e9.trans e_t) ⟨_, rfl, t, v, c, f, rfl, hc, h_t, hf.up e_t, ok, g1, g2⟩
        obtain ⟨ys, ey, ly, hy⟩ := All.end hp8
        rw [ey] at hD8
        rw [List.length_map] at hl8
        obtain ⟨r, ra, rok, rc, rd, rz⟩ := rowD_rows (ys := ys) (rs := B) (by omega) rsub hy
        have hp := hp.up e8
        have hS := e8 _ _ hS
        have hC := e8 _ _ hC
        have cS := Cells.up e8 cS
        have ck := ck.up e8
        have eA := eA.trans e8
        clear hp8 hl8 ey ly hy e8 hD2
        try dsimp only [List.set]
        repeat fail "st"
        intro tt o nt od
        generalize hh : upd _ tt _ = H_tt
        have e_tt := newEx hh nt
        have h_tt := newAt hh
        clear hh
        have tu : Tu H_tt tt ys := ⟨o, od, h_tt⟩
        have ra := RowsAt.up e_tt ra
        have hp := hp.up e_tt
        have hS := e_tt _ _ hS
        have hC := e_tt _ _ hC
        have cS := Cells.up e_tt cS
        have ck := ck.up e_tt
        have eA := eA.trans e_tt
        clear e_tt h_tt hD8
        repeat fail "st"
        refine ⟨p, sa, ca, _, mm, as, S, C, rfl, (by omega), (by omega), hp, hS, cS, neS, lS, hC, neC, lC, pw, fun v f H9 e9 hf ok g1 g2 => ?_⟩
        repeat fail "st"
        intro t n_t
        generalize hh : upd _ t _ = H_t
        have e_t := newEx hh n_t
        have h_t := newAt hh
        clear hh
        have e10 := e9.trans e_t
        refine q (.ref t) (.ask k r f) _ (eA.trans e10) (.ask h_t (ck.up e10) (tu.up e10) (RowsAt.up e10 ra) (hf.up e_t)) ⟨mk, ⟨?_, ?_⟩, rok, ok⟩ (by show 1 + max (dpR r) (dpF f) ≤ _; omega) ?_
        · rw [rc]
          exact rne
        · rw [rc]
          exact rpw
        · show 1 + (szR r + szF f) ≤ 4 * szb mm + 4
          have : B.length * (1 + szb mm) ≤ 3 * (1 + szb mm) := Nat.mul_le_mul_right _ (by omega)
          omega
    · repeat fail "st"
      intro pk H1 e1 pk0 pk1
      have hp := hp.up e1
      have hS := e1 _ _ hS
      have hC := e1 _ _ hC
      have cS := Cells.up e1 cS
      try dsimp only [List.set]
      repeat fail "st"
      refine ifD (fun h0 => ?_) (fun h0 => ?_)
      · repeat fail "st"
        intro d Hd ed d0 d1
        rw [lcm] at d1
        obtain ⟨j, rfl⟩ := Int.eq_ofNat_of_zero_le d0
        have hj : j < C.length := by omega
        have gj := List.getElem?_eq_getElem hj
        have hC := ed _ _ hC
        repeat fail "st"
        show rIx K _ _ _ _
        refine ixL_at (K := K) (j := j) (xs := C.map V.int) (SqL.of hC) rfl (by rw [List.getElem?_map, gj]; rfl) ?_
        repeat fail "st"
        intro t n_t
        generalize hh : upd _ t _ = H_t
        have e_t := newEx hh n_t
        have h_t := newAt hh
        clear hh
        exact q (.ref t) (.col C[j]) _ (e1.trans (ed.trans e_t)) (.col h_t) (List.getElem_mem hj) (by show 1 ≤ _; omega) (by show 1 ≤ _; cases m <;> simp [szb])
      repeat fail "st"
      intro dd G2 e2 dd0 dd1
      rw [lsm] at dd1
      obtain ⟨j, rfl⟩ := Int.eq_ofNat_of_zero_le dd0
      have hj : j < as.length := by omega
      have gj := List.getElem?_eq_getElem hj
      obtain ⟨k, gk, ck⟩ := paired_at (Cells.up e2 cS) gj
      have mk : k ∈ S := List.mem_of_getElem? gk
      have hS := e2 _ _ hS
      repeat fail "st"
      show rIx K _ _ _ _
      refine ixL_at (K := K) (j := j) (xs := as.map V.ref) (SqL.of hS) rfl (by rw [List.getElem?_map, gj]; rfl) ?_
      generalize as[j] = ak at *
      have hp := hp.up e2
      have hC := e2 _ _ hC
      have cS := Cells.up e2 cS
      have eA := e1.trans e2
      try dsimp only [List.set]
      repeat fail "st"
      refine ifD (fun h1 => ?_) (fun h1 => ?_)
      · repeat fail "st"
        intro t n_t
        generalize hh : upd _ t _ = H_t
        have e_t := newEx hh n_t
        have h_t := newAt hh
        clear hh
        exact q (.ref t) (.cel k) _ (eA.trans e_t) (.cel h_t (ck.up e_t)) mk (by show 1 ≤ _; omega) (by show 1 ≤ _; cases m <;> simp [szb])
      exact absurd pk1 (by
        have a : pk ≠ 0 := fun z => h0 (by rw [z])
        have b : pk ≠ 1 := fun z => h1 (by rw [z])
        omega)
theorem c_law_form (T : Txt K mg) : ∀ n : Nat, Cl P w K mg base CX0 (n + 1) "_law_form" s_law_form ["_law_pool_here", "_law_spots", "_law_colours", "_law_deep"] (spForm n)
  | 0 => cl_false T.d_law_form fun vs H Q E h => by
    obtain ⟨p, sa, ca, i, m, as, S, C, _, _, h, _⟩ := h
    omega
  | n + 1 => st_law_form T n (c_law_form T n)
end

end K45
namespace K45
open PySem PySem.Spec PyProof.Rows L2 Evl Lw
section
variable {P : Program} {w : World} {K : PySem.W.Frag} {mg : Str → Option Value} {base : Heap}
theorem menu_ok : ∀ C ∈ menuL, C ≠ [] ∧ C.length ≤ 3 ∧ C.Pairwise (· < ·) ∧ ∀ c ∈ C, 0 ≤ c ∧ c ≤ 1000000000 := by
  unfold menuL
  decide
theorem onL_cell {h : Int} (b : 1 ≤ h ∧ h ≤ 9) {k : Cell} (o : OnL k) : isCellB (roomsL h) (vdC k) = true := by
  have f1 : ∀ (x y : Int), 0 ≤ x → x ≤ 999999999999 → y = 0 → isCellB (roomsL h) (vdC (mkC "a" x y)) = true := fun x y h0 h1 h2 => by
    show ((decide (0 ≤ x) && decide (x ≤ 1000000000000 - 1)) && (decide (0 ≤ y) && decide (y ≤ h - 1))) = true
    rw [decide_eq_true h0, decide_eq_true (by omega), decide_eq_true (by omega), decide_eq_true (by omega)]
    rfl
  have nb : decide ((Str.ofString "a") = Str.ofString "b") = false := by decide +kernel
  have nc : decide ((Str.ofString "a") = Str.ofString "c") = false := by decide +kernel
  have nbc : decide ((Str.ofString "b") = Str.ofString "c") = false := by decide +kernel
  have bb : decide ((Str.ofString "b") = Str.ofString "b") = true := by decide +kernel
  have f2 : ∀ (x y : Int), 0 ≤ x → x ≤ 2 → 0 ≤ y → y ≤ 999999999999 → isCellB (roomsL h) (vdC (mkC "b" x y)) = true := fun x y h0 h1 h2 h3 => by
    have e := find_at (l := roomsL h) (nm := Str.ofString "b") (i := 1) rfl rfl (fun t m => by
      rw [List.mem_singleton.mp (show t ∈ [_] from m)]
      exact of_decide_eq_false nb)
    show (match (roomsL h).find? (fun s => decide (s.1 = Str.ofString "b")) with
      | some s => inD 0 (s.2.1 - 1) (.int x) && inD 0 (s.2.2 - 1) (.int y)
      | none => false) = true
    rw [e]
    show ((decide (0 ≤ x) && decide (x ≤ 3 - 1)) && (decide (0 ≤ y) && decide (y ≤ 1000000000000 - 1))) = true
    rw [decide_eq_true h0, decide_eq_true (by omega), decide_eq_true h2, decide_eq_true (by omega)]
    rfl
  have f3 : isCellB (roomsL h) (vdC (mkC "c" 0 0)) = true := by
    have e := find_at (l := roomsL h) (nm := Str.ofString "c") (i := 2) rfl rfl (fun t m => by
      rcases List.mem_cons.mp (show t ∈ [_, _] from m) with rfl | m
      · exact of_decide_eq_false nc
      · rw [List.mem_singleton.mp m]
        exact of_decide_eq_false nbc)
    show (match (roomsL h).find? (fun s => decide (s.1 = Str.ofString "c")) with
      | some s => inD 0 (s.2.1 - 1) (.int 0) && inD 0 (s.2.2 - 1) (.int 0)
      | none => false) = true
    rw [e]
    rfl
  rcases o with rfl | ⟨d, h0, h1, rfl⟩ | rfl | ⟨d, h0, h1, rfl⟩ | rfl
  · exact f1 _ _ (by decide) (by decide) rfl
  · exact f1 _ _ h0 (by omega) rfl
  · exact f3
  · exact f2 _ _ (by decide) (by decide) (by omega) (by omega)
  · exact f2 _ _ (by decide) (by decide) (by decide) (by decide)
theorem rooms_ok {h : Int} : ∀ s ∈ roomsL h, PyData.strOk s.1 = true := fun s m => by
  simp only [roomsL, List.mem_cons, List.not_mem_nil, or_false] at m
  rcases m with rfl | rfl | rfl
  · exact ok_a
  · exact ok_b
  · exact ok_c
end

end K45
namespace K45
open PySem PySem.Spec PyProof.Rows L2 Evl Lw
section
variable {P : Program} {w : World} {K : PySem.W.Frag} {mg : Str → Option Value} {base : Heap}
abbrev Tx (x : Str) : List Nat := x.cps.toList
theorem tx_app (x y : Str) : Tx (x ++ y) = Tx x ++ Tx y := by
  show (x.cps ++ y.cps).toList = _
  rw [Array.toList_append]
theorem tx_inj {x y : Str} (h : Tx x = Tx y) : x = y := PySem.W.str_of_cps h
def dg (i : Int) : List Nat := Tx (Str.ofString (toString i))
theorem dg_nat (m : Nat) : dg (m : Int) = (Nat.toDigits 10 m).map Char.toNat := PySem.W.KIN.signs_num m
theorem dg_digit {i : Int} (h : 0 ≤ i) : ∀ c ∈ dg i, 48 ≤ c ∧ c ≤ 57 := fun c hc => by
  obtain ⟨m, rfl⟩ := Int.eq_ofNat_of_zero_le h
  rw [dg_nat] at hc
  obtain ⟨ch, hch, e⟩ := List.mem_map.mp hc
  rw [← e]
  exact digit_range (Nat.isDigit_of_mem_toDigits (by decide) (by decide) hch)
theorem dg_inj {i j : Int} (hi : 0 ≤ i) (hj : 0 ≤ j) (h : dg i = dg j) : i = j := by
  obtain ⟨m, rfl⟩ := Int.eq_ofNat_of_zero_le hi
  obtain ⟨n, rfl⟩ := Int.eq_ofNat_of_zero_le hj
  rw [dg_nat, dg_nat] at h
  have := PySem.W.KIN.val_back m
  rw [h, PySem.W.KIN.val_back n] at this
  rw [this]
theorem dg_len {i : Int} (h0 : 0 ≤ i) (h1 : i ≤ 1000000000000) : (dg i).length ≤ 13 := by
  obtain ⟨m, rfl⟩ := Int.eq_ofNat_of_zero_le h0
  rw [dg_nat, List.length_map]
  exact digits10_le (by decide) (by omega)
theorem cut_digits {x y : Nat} (hx : ¬ (48 ≤ x ∧ x ≤ 57)) (hy : ¬ (48 ≤ y ∧ y ≤ 57)) : ∀ {a b s t : List Nat}, (∀ c ∈ a, 48 ≤ c ∧ c ≤ 57) → (∀ c ∈ b, 48 ≤ c ∧ c ≤ 57) → a ++ x :: s = b ++ y :: t → a = b ∧ x = y ∧ s = t
  | [], [], s, t, _, _, h => ⟨rfl, List.cons.inj h⟩
  | [], c :: b, s, t, _, hb, h => by
    have := (List.cons.inj h).1
    exact absurd (this ▸ hb c List.mem_cons_self) hx
  | c :: a, [], s, t, ha, _, h => by
    have := (List.cons.inj h).1
    exact absurd (this ▸ ha c List.mem_cons_self) hy
  | c :: a, d :: b, s, t, ha, hb, h => by
    obtain ⟨e, h⟩ := List.cons.inj h
    obtain ⟨e1, e2⟩ := cut_digits hx hy (fun c m => ha c (List.mem_cons_of_mem _ m)) (fun c m => hb c (List.mem_cons_of_mem _ m)) h
    exact ⟨by rw [e, e1], e2⟩
theorem dg_cut {i j : Int} {x y : Nat} {s t : List Nat} (hi : 0 ≤ i) (hj : 0 ≤ j) (hx : ¬ (48 ≤ x ∧ x ≤ 57)) (hy : ¬ (48 ≤ y ∧ y ≤ 57)) (h : dg i ++ x :: s = dg j ++ y :: t) : i = j ∧ x = y ∧ s = t := by
  obtain ⟨a, b⟩ := cut_digits hx hy (dg_digit hi) (dg_digit hj) h
  exact ⟨dg_inj hi hj a, b⟩
/-- texts with ", " between them -/
def Jn : List (List Nat) → List Nat
  | [] => []
  | [x] => x
  | x :: y :: r => x ++ ([44, 32] ++ Jn (y :: r))
theorem tx_join : ∀ ts : List Str, Tx (Str.join ", " ts) = Jn (ts.map Tx)
  | [] => rfl
  | [x] => rfl
  | x :: y :: r => by
    show Tx (x ++ ", " ++ Str.join ", " (y :: r)) = Tx x ++ ([44, 32] ++ Jn ((y :: r).map Tx))
    rw [tx_app, tx_app, tx_join (y :: r), List.append_assoc]
    rfl
theorem tx_tup (ts : List Str) : Tx (tupleText ts) = [40] ++ (Jn (ts.map Tx) ++ (if ts.length = 1 then [44, 41] else [41])) := by
  show Tx (("(" : Str) ++ Str.join ", " ts ++ (if (ts.length == 1) = true then ",)" else ")" : String)) = _
  rw [tx_app, tx_app, tx_join, List.append_assoc]
  by_cases h : ts.length = 1
  · rw [if_pos h, if_pos (beq_iff_eq.mpr h)]
    rfl
  · rw [if_neg h, if_neg (fun z => h (beq_iff_eq.mp z))]
    rfl
/-- a cell that is told by one letter and two numbers -/
def ShK (k : Cell) : Prop := (k.1 = "a" ∨ k.1 = "b" ∨ k.1 = "c") ∧ (0 ≤ k.2.1 ∧ k.2.1 ≤ 1000000000000) ∧ (0 ≤ k.2.2 ∧ k.2.2 ≤ 1000000000000)
def ShN (c : Int) : Prop := 0 ≤ c ∧ c ≤ 1000000000000
def txK (k : Cell) : List Nat := Tx (PyData.shown (datC k))
def txF (f : Fo.Form Cell) : List Nat := Tx (PyData.shown (datF f))
def txR (r : Fo.Rows Cell) : List Nat := Tx (PyData.shown (.tuple (datR r)))
def txP (c : Int) (f : Fo.Form Cell) : List Nat := Tx (PyData.shown (.tuple [.int c, datF f]))
theorem nm_tx {n : Str} (h : n = "a" ∨ n = "b" ∨ n = "c") : ∃ x, (x = 97 ∨ x = 98 ∨ x = 99) ∧ Tx (reprText n) = [39, x, 39] ∧ Tx n = [x] := by
  rcases h with rfl | rfl | rfl
  · exact ⟨97, .inl rfl, by decide +kernel, by decide +kernel⟩
  · exact ⟨98, .inr (.inl rfl), by decide +kernel, by decide +kernel⟩
  · exact ⟨99, .inr (.inr rfl), by decide +kernel, by decide +kernel⟩
theorem txK_eq (k : Cell) : txK k = [40] ++ (Tx (reprText k.1) ++ ([44, 32] ++ (dg k.2.1 ++ ([44, 32] ++ (dg k.2.2 ++ [41]))))) := by
  show Tx (tupleText [reprText k.1, toString k.2.1, toString k.2.2]) = _
  rw [tx_tup]
  show [40] ++ ((Tx (reprText k.1) ++ ([44, 32] ++ (dg k.2.1 ++ ([44, 32] ++ dg k.2.2)))) ++ [41]) = _
  simp only [List.append_assoc]
theorem txF_col (c : Int) : txF (.col c) = [40, 39, 99, 111, 108, 111, 117, 114, 39, 44, 32] ++ (dg c ++ [41]) := by
  show Tx (tupleText [reprText "colour", toString c]) = _
  rw [tx_tup]
  show [40] ++ ((Tx (reprText "colour") ++ ([44, 32] ++ dg c)) ++ [41]) = _
  rw [show Tx (reprText "colour") = [39, 99, 111, 108, 111, 117, 114, 39] from by decide +kernel]
  simp only [List.append_assoc, List.cons_append, List.nil_append]
theorem txF_cel (k : Cell) : txF (.cel k) = [40, 39, 99, 101, 108, 108, 39, 44, 32] ++ (txK k ++ [41]) := by
  show Tx (tupleText [reprText "cell", PyData.shown (datC k)]) = _
  rw [tx_tup]
  show [40] ++ ((Tx (reprText "cell") ++ ([44, 32] ++ txK k)) ++ [41]) = _
  rw [show Tx (reprText "cell") = [39, 99, 101, 108, 108, 39] from by decide +kernel]
  simp only [List.append_assoc, List.cons_append, List.nil_append]
theorem txF_ask (k : Cell) (r : Fo.Rows Cell) (o : Fo.Form Cell) : txF (.ask k r o) = [40, 39, 97, 115, 107, 39, 44, 32] ++ (txK k ++ ([44, 32] ++ (txR r ++ ([44, 32] ++ (txF o ++ [41]))))) := by
  show Tx (tupleText [reprText "ask", PyData.shown (datC k), PyData.shown (.tuple (datR r)), PyData.shown (datF o)]) = _
  rw [tx_tup]
  show [40] ++ ((Tx (reprText "ask") ++ ([44, 32] ++ (txK k ++ ([44, 32] ++ (txR r ++ ([44, 32] ++ txF o)))))) ++ [41]) = _
  rw [show Tx (reprText "ask") = [39, 97, 115, 107, 39] from by decide +kernel]
  simp only [List.append_assoc, List.cons_append, List.nil_append]
theorem txP_eq (c : Int) (f : Fo.Form Cell) : txP c f = [40] ++ (dg c ++ ([44, 32] ++ (txF f ++ [41]))) := by
  show Tx (tupleText [toString c, PyData.shown (datF f)]) = _
  rw [tx_tup]
  show [40] ++ ((dg c ++ ([44, 32] ++ txF f)) ++ [41]) = _
  simp only [List.append_assoc]
/-- what follows a row among several -/
def txT : Fo.Rows Cell → List Nat
  | .nil => [41]
  | .cons c f t => [44, 32] ++ (txP c f ++ txT t)
theorem jn_rows (c : Int) (f : Fo.Form Cell) : ∀ t : Fo.Rows Cell, Jn ((PyData.shownAll (datR (.cons c f t))).map Tx) ++ [41] = txP c f ++ txT t
  | .nil => rfl
  | .cons d g u => by
    have ih := jn_rows d g u
    show (txP c f ++ ([44, 32] ++ Jn ((PyData.shownAll (datR (.cons d g u))).map Tx))) ++ [41] = txP c f ++ ([44, 32] ++ (txP d g ++ txT u))
    rw [← ih]
    simp only [List.append_assoc]
theorem txR_nil : txR .nil = [40, 41] := by
  show Tx (tupleText []) = _
  rw [tx_tup]
  rfl
theorem txR_one (c : Int) (f : Fo.Form Cell) : txR (.cons c f .nil) = [40] ++ (txP c f ++ [44, 41]) := by
  show Tx (tupleText [PyData.shown (.tuple [.int c, datF f])]) = _
  rw [tx_tup]
  rfl
theorem txR_more (c : Int) (f : Fo.Form Cell) (d : Int) (g : Fo.Form Cell) (u : Fo.Rows Cell) : txR (.cons c f (.cons d g u)) = [40] ++ (txP c f ++ txT (.cons d g u)) := by
  show Tx (tupleText (PyData.shownAll (datR (.cons c f (.cons d g u))))) = _
  rw [tx_tup, if_neg (by show ¬ (PyData.shownAll (datR u)).length + 1 + 1 = 1; omega), jn_rows]
theorem cut_lit {l a b : List Nat} (h : l ++ a = l ++ b) : a = b := List.append_cancel_left h
theorem txK_len {k : Cell} (h : ShK k) : (txK k).length ≤ 35 := by
  obtain ⟨x, _, ex, _⟩ := nm_tx h.1
  have h1 := dg_len h.2.1.1 h.2.1.2
  have h2 := dg_len h.2.2.1 h.2.2.2
  rw [txK_eq, ex]
  simp only [List.length_append, List.length_cons, List.length_nil]
  omega
theorem txK_cut {k l : Cell} (hk : ShK k) (hl : ShK l) {s t : List Nat} (h : txK k ++ s = txK l ++ t) : k = l ∧ s = t := by
  rw [txK_eq, txK_eq] at h
  obtain ⟨x, _, ex, nx⟩ := nm_tx hk.1
  obtain ⟨y, _, ey, ny⟩ := nm_tx hl.1
  rw [ex, ey] at h
  simp only [List.append_assoc, List.cons_append, List.nil_append, List.cons.injEq, true_and] at h
  obtain ⟨exy, h2⟩ := h
  obtain ⟨e1, _, h3⟩ := dg_cut hk.2.1.1 hl.2.1.1 (by omega) (by omega) h2
  have h4 := (List.cons.inj h3).2
  obtain ⟨e2, _, hst⟩ := dg_cut hk.2.2.1 hl.2.2.1 (by omega) (by omega) h4
  clear h2 h3 h4
  obtain ⟨n, a, b⟩ := k
  obtain ⟨m, c, d⟩ := l
  have : n = m := tx_inj (by rw [nx, ny, exy])
  replace e1 : a = c := e1
  replace e2 : b = d := e2
  rw [this, e1, e2]
  exact ⟨rfl, hst⟩
/-- texts of forms to a depth are told apart -/
def CutF (n : Nat) (E A : Cell → Prop) : Prop := ∀ f g : Fo.Form Cell, dpF f ≤ n → Fo.Ok ShN E A f → Fo.Ok ShN E A g → ∀ s t : List Nat, txF f ++ s = txF g ++ t → f = g ∧ s = t
theorem txP_cut {n : Nat} {E A : Cell → Prop} (F : CutF n E A) {c d : Int} {f g : Fo.Form Cell} (hn : dpF f ≤ n) (hc : ShN c) (hd : ShN d) (hf : Fo.Ok ShN E A f) (hg : Fo.Ok ShN E A g) {s t : List Nat} (h : txP c f ++ s = txP d g ++ t) : c = d ∧ f = g ∧ s = t := by
  rw [txP_eq, txP_eq] at h
  try simp only [List.append_assoc] at h
  have h1 := cut_lit h
  try simp only [List.append_assoc] at h1
  obtain ⟨e1, _, h2⟩ := dg_cut (x := 44) (y := 44) hc.1 hd.1 (by omega) (by omega) h1
  have h3 := (List.cons.inj h2).2
  try simp only [List.append_assoc] at h3
  obtain ⟨e2, h4⟩ := F _ _ hn hf hg _ _ h3
  exact ⟨e1, e2, cut_lit h4⟩
theorem txT_cut {n : Nat} {E A : Cell → Prop} (F : CutF n E A) : ∀ r q : Fo.Rows Cell, dpR r ≤ n → Fo.OkR ShN E A r → Fo.OkR ShN E A q → ∀ s t : List Nat, txT r ++ s = txT q ++ t → r = q ∧ s = t
  | .nil, .nil, _, _, _, s, t, h => ⟨rfl, cut_lit h⟩
  | .nil, .cons c f u, _, _, _, s, t, h => absurd (List.cons.inj h).1 (by decide)
  | .cons c f u, .nil, _, _, _, s, t, h => absurd (List.cons.inj h).1 (by decide)
  | .cons c f u, .cons d g v, hn, k1, k2, s, t, h => by
    obtain ⟨a1, b1, k1⟩ := k1
    obtain ⟨a2, b2, k2⟩ := k2
    have hn2 : max (dpF f) (dpR u) ≤ n := hn
    have h0 : ([44, 32] ++ (txP c f ++ txT u)) ++ s = ([44, 32] ++ (txP d g ++ txT v)) ++ t := h
    try simp only [List.append_assoc] at h0
    have h1 := cut_lit h0
    try simp only [List.append_assoc] at h1
    obtain ⟨e1, e2, h2⟩ := txP_cut F (by omega) a1 a2 b1 b2 h1
    obtain ⟨e3, h3⟩ := txT_cut F u v (by omega) k1 k2 s t h2
    exact ⟨by rw [e1, e2, e3], h3⟩
/-- what follows the first row -/
def txU : Fo.Rows Cell → List Nat
  | .nil => [44, 41]
  | .cons d g u => txT (.cons d g u)
theorem txR_cons (c : Int) (f : Fo.Form Cell) (t : Fo.Rows Cell) : txR (.cons c f t) = [40] ++ (txP c f ++ txU t) := by
  cases t with
  | nil => exact txR_one c f
  | cons d g u => exact txR_more c f d g u
theorem txR_cut {n : Nat} {E A : Cell → Prop} (F : CutF n E A) {r q : Fo.Rows Cell} (hn : dpR r ≤ n) (k1 : Fo.OkR ShN E A r) (k2 : Fo.OkR ShN E A q) {s t : List Nat} (h : txR r ++ s = txR q ++ t) : r = q ∧ s = t := by
  cases r with
  | nil =>
    cases q with
    | nil => exact ⟨rfl, cut_lit h⟩
    | cons d g v =>
      rw [txR_nil, txR_cons, txP_eq] at h
      simp at h
  | cons c f u =>
    cases q with
    | nil =>
      rw [txR_nil, txR_cons, txP_eq] at h
      simp at h
    | cons d g v =>
      obtain ⟨a1, b1, k1⟩ := k1
      obtain ⟨a2, b2, k2⟩ := k2
      have hn2 : max (dpF f) (dpR u) ≤ n := hn
      rw [txR_cons, txR_cons] at h
      try simp only [List.append_assoc] at h
      have h1 := cut_lit h
      try simp only [List.append_assoc] at h1
      obtain ⟨e1, e2, h2⟩ := txP_cut F (by omega) a1 a2 b1 b2 h1
      cases u with
      | nil =>
        cases v with
        | nil => exact ⟨by rw [e1, e2], cut_lit h2⟩
        | cons d g v => exact absurd (List.cons.inj (List.cons.inj h2).2).1 (by decide)
      | cons c f u =>
        cases v with
        | nil => exact absurd (List.cons.inj (List.cons.inj h2).2).1 (by decide)
        | cons d g v =>
          obtain ⟨e3, h3⟩ := txT_cut F (.cons c f u) (.cons d g v) (by omega) k1 k2 s t h2
          exact ⟨by rw [e1, e2, e3], h3⟩
theorem txF_cut {E A : Cell → Prop} (hE : ∀ k, E k → ShK k) (hA : ∀ k, A k → ShK k) : ∀ n : Nat, CutF n E A
  | 0 => fun f g hn => by
    have := dpF_pos f
    omega
  | n + 1 => fun f g hn hf hg s t h => by
    have F := txF_cut hE hA n
    cases f with
    | col c =>
      cases g with
      | col d =>
        rw [txF_col, txF_col] at h
        try simp only [List.append_assoc] at h
        have h1 := cut_lit h
        try simp only [List.append_assoc] at h1
        obtain ⟨e, _, h2⟩ := dg_cut (x := 41) (y := 41) (show ShN c from hf).1 (show ShN d from hg).1 (by omega) (by omega) h1
        exact ⟨by rw [e], h2⟩
      | cel k => rw [txF_col, txF_cel] at h; simp at h
      | ask k r o => rw [txF_col, txF_ask] at h; simp at h
    | cel k =>
      cases g with
      | col d => rw [txF_col, txF_cel] at h; simp at h
      | cel l =>
        rw [txF_cel, txF_cel] at h
        try simp only [List.append_assoc] at h
        have h1 := cut_lit h
        try simp only [List.append_assoc] at h1
        obtain ⟨e, h2⟩ := txK_cut (hE _ hf) (hE _ hg) h1
        exact ⟨by rw [e], cut_lit h2⟩
      | ask l r o => rw [txF_ask, txF_cel] at h; simp at h
    | ask k r o =>
      cases g with
      | col d => rw [txF_col, txF_ask] at h; simp at h
      | cel l => rw [txF_ask, txF_cel] at h; simp at h
      | ask l q p =>
        obtain ⟨a1, _, b1, c1⟩ := hf
        obtain ⟨a2, _, b2, c2⟩ := hg
        have hn2 : 1 + max (dpR r) (dpF o) ≤ n + 1 := hn
        rw [txF_ask, txF_ask] at h
        try simp only [List.append_assoc] at h
        have h1 := cut_lit h
        try simp only [List.append_assoc] at h1
        obtain ⟨e1, h2⟩ := txK_cut (hA _ a1) (hA _ a2) h1
        try simp only [List.append_assoc] at h2
        have h3 := cut_lit h2
        try simp only [List.append_assoc] at h3
        obtain ⟨e2, h4⟩ := txR_cut F (by omega) b1 b2 h3
        try simp only [List.append_assoc] at h4
        have h5 := cut_lit h4
        try simp only [List.append_assoc] at h5
        obtain ⟨e3, h6⟩ := F _ _ (by omega) c1 c2 _ _ h5
        exact ⟨by rw [e1, e2, e3], cut_lit h6⟩
/-- forms of one text are one form -/
theorem shown_inj {E A : Cell → Prop} (hE : ∀ k, E k → ShK k) (hA : ∀ k, A k → ShK k) {f g : Fo.Form Cell} (hf : Fo.Ok ShN E A f) (hg : Fo.Ok ShN E A g) (h : PyData.shown (datF f) = PyData.shown (datF g)) : f = g :=
  (txF_cut hE hA _ f g (Nat.le_refl _) hf hg [] [] (by show Tx _ ++ [] = Tx _ ++ []; rw [h])).1
mutual
theorem txF_len {E A : Cell → Prop} (hE : ∀ k, E k → ShK k) (hA : ∀ k, A k → ShK k) : ∀ f : Fo.Form Cell, Fo.Ok ShN E A f → (txF f).length ≤ 64 * szF f
  | .col c, h => by
    have := dg_len (show ShN c from h).1 (show ShN c from h).2
    rw [txF_col, List.length_append, List.length_append]
    show 11 + (_ + 1) ≤ 64
    omega
  | .cel k, h => by
    have := txK_len (hE _ h)
    rw [txF_cel, List.length_append, List.length_append]
    show 9 + (_ + 1) ≤ 64
    omega
  | .ask k r o, ⟨a, _, b, c⟩ => by
    have h1 := txK_len (hA _ a)
    have h2 := txR_len hE hA r b
    have h3 := txF_len hE hA o c
    rw [txF_ask]
    simp only [List.length_append, List.length_cons, List.length_nil]
    show _ ≤ 64 * (1 + (szR r + szF o))
    omega
theorem txR_len {E A : Cell → Prop} (hE : ∀ k, E k → ShK k) (hA : ∀ k, A k → ShK k) : ∀ r : Fo.Rows Cell, Fo.OkR ShN E A r → (txR r).length ≤ 64 * szR r + 2
  | .nil, _ => by rw [txR_nil]; exact Nat.le_refl _
  | .cons c f t, ⟨a, b, d⟩ => by
    have h1 := dg_len a.1 a.2
    have h2 := txF_len hE hA f b
    have h3 := txU_len hE hA t d
    rw [txR_cons, txP_eq]
    simp only [List.length_append, List.length_cons, List.length_nil]
    show _ ≤ 64 * (1 + (szF f + szR t)) + 2
    omega
theorem txU_len {E A : Cell → Prop} (hE : ∀ k, E k → ShK k) (hA : ∀ k, A k → ShK k) : ∀ r : Fo.Rows Cell, Fo.OkR ShN E A r → (txU r).length ≤ 64 * szR r + 2
  | .nil, _ => Nat.le_refl _
  | .cons c f t, ⟨a, b, d⟩ => by
    have h1 := dg_len a.1 a.2
    have h2 := txF_len hE hA f b
    have h3 := txT_len hE hA t d
    show ([44, 32] ++ (txP c f ++ txT t)).length ≤ _
    rw [txP_eq]
    simp only [List.length_append, List.length_cons, List.length_nil]
    show _ ≤ 64 * (1 + (szF f + szR t)) + 2
    omega
theorem txT_len {E A : Cell → Prop} (hE : ∀ k, E k → ShK k) (hA : ∀ k, A k → ShK k) : ∀ r : Fo.Rows Cell, Fo.OkR ShN E A r → (txT r).length ≤ 64 * szR r + 2
  | .nil, _ => by show 1 ≤ _; omega
  | .cons c f t, ⟨a, b, d⟩ => by
    have h1 := dg_len a.1 a.2
    have h2 := txF_len hE hA f b
    have h3 := txT_len hE hA t d
    show ([44, 32] ++ (txP c f ++ txT t)).length ≤ _
    rw [txP_eq]
    simp only [List.length_append, List.length_cons, List.length_nil]
    show _ ≤ 64 * (1 + (szF f + szR t)) + 2
    omega
end
theorem ok_rep {n : Str} (h : n = "a" ∨ n = "b" ∨ n = "c") : PyData.strOk (reprText n) = true := by
  rcases h with rfl | rfl | rfl <;> decide +kernel
theorem ok_tup : ∀ ds : List PyData, (∀ t ∈ PyData.shownAll ds, PyData.strOk t = true) → PyData.strOk (PyData.shown (.tuple ds)) = true := fun ds s4 => by
  show PyData.strOk (("(" : Str) ++ Str.join ", " (PyData.shownAll ds) ++ _) = true
  rw [ok_app, ok_app, ok_join (ok_of _) s4]
  have o1 : PyData.strOk ("(" : Str) = true := ok_of _
  rw [o1]
  simp only [Bool.true_and]
  split <;> exact ok_of _
theorem ok_cell {k : Cell} (h : ShK k) : PyData.strOk (PyData.shown (datC k)) = true := ok_tup _ fun t m => by
  rcases List.mem_cons.mp m with rfl | m
  · exact ok_rep h.1
  rcases List.mem_cons.mp m with rfl | m
  · exact ok_of _
  rcases List.mem_cons.mp m with rfl | m
  · exact ok_of _
  cases m
theorem int_show {c : Int} (h : ShN c) : PyData.showable (.int c) = true := decide_eq_true (Nat.lt_trans (log_small (Nat.lt_of_lt_of_le (show c.natAbs < 10000000000000 by have := h.1; have := h.2; omega) (by decide))) (by decide))
theorem cell_show {k : Cell} (h : ShK k) : PyData.showable (datC k) = true := by
  show (true && (PyData.showable (.int k.2.1) && (PyData.showable (.int k.2.2) && true))) = true
  rw [int_show h.2.1, int_show h.2.2]
  rfl
mutual
theorem ok_form {E A : Cell → Prop} (hE : ∀ k, E k → ShK k) (hA : ∀ k, A k → ShK k) : ∀ f : Fo.Form Cell, Fo.Ok ShN E A f → PyData.strOk (PyData.shown (datF f)) = true ∧ PyData.showable (datF f) = true
  | .col c, h => by
    refine ⟨ok_tup _ fun t m => ?_, ?_⟩
    · rcases List.mem_cons.mp m with rfl | m
      · exact (by decide +kernel : PyData.strOk (reprText "colour") = true)
      rcases List.mem_cons.mp m with rfl | m
      · exact ok_of _
      cases m
    · show (true && (PyData.showable (.int c) && true)) = true
      rw [int_show h]
      rfl
  | .cel k, h => by
    refine ⟨ok_tup _ fun t m => ?_, ?_⟩
    · rcases List.mem_cons.mp m with rfl | m
      · exact (by decide +kernel : PyData.strOk (reprText "cell") = true)
      rcases List.mem_cons.mp m with rfl | m
      · exact ok_cell (hE _ h)
      cases m
    · show (true && (PyData.showable (datC k) && true)) = true
      rw [cell_show (hE _ h)]
      rfl
  | .ask k r o, ⟨a, _, b, c⟩ => by
    obtain ⟨h1, h2⟩ := ok_rowsS hE hA r b
    obtain ⟨h3, h4⟩ := ok_form hE hA o c
    refine ⟨ok_tup _ fun t m => ?_, ?_⟩
    · rcases List.mem_cons.mp m with rfl | m
      · exact (by decide +kernel : PyData.strOk (reprText "ask") = true)
      rcases List.mem_cons.mp m with rfl | m
      · exact ok_cell (hA _ a)
      rcases List.mem_cons.mp m with rfl | m
      · exact ok_tup _ h1
      rcases List.mem_cons.mp m with rfl | m
      · exact h3
      cases m
    · show (true && (PyData.showable (datC k) && (PyData.showableAll (datR r) && (PyData.showable (datF o) && true)))) = true
      rw [cell_show (hA _ a), h2, h4]
      rfl
theorem ok_rowsS {E A : Cell → Prop} (hE : ∀ k, E k → ShK k) (hA : ∀ k, A k → ShK k) : ∀ r : Fo.Rows Cell, Fo.OkR ShN E A r → (∀ t ∈ PyData.shownAll (datR r), PyData.strOk t = true) ∧ PyData.showableAll (datR r) = true
  | .nil, _ => ⟨fun t m => (nomatch m), rfl⟩
  | .cons c f u, ⟨a, b, d⟩ => by
    obtain ⟨h1, h2⟩ := ok_form hE hA f b
    obtain ⟨h3, h4⟩ := ok_rowsS hE hA u d
    refine ⟨fun t m => ?_, ?_⟩
    · rcases List.mem_cons.mp m with rfl | m
      · refine ok_tup _ fun t m => ?_
        rcases List.mem_cons.mp m with rfl | m
        · exact ok_of _
        rcases List.mem_cons.mp m with rfl | m
        · exact h1
        cases m
      · exact h3 t m
    · show ((PyData.showable (.int c) && (PyData.showable (datF f) && true)) && PyData.showableAll (datR u)) = true
      rw [int_show a, h2, h4]
      rfl
end
/-- the text of a form can be told -/
theorem form_shows {E A : Cell → Prop} (hE : ∀ k, E k → ShK k) (hA : ∀ k, A k → ShK k) {H : Hp} {v : V} {f : Fo.Form Cell} (h : FormAt H v f) (ok : Fo.Ok ShN E A f) (d : dpF f ≤ 18) (z : szF f ≤ 200000) : Dd K H v (datF f) ∧ Shows (datF f) := by
  obtain ⟨o1, o2⟩ := ok_form hE hA f ok
  refine ⟨.dp (dp_form h) (shaped_form h d), o2, ?_, o1⟩
  have l1 := txF_len hE hA f ok
  have l2 : (PyData.shown (datF f)).length = (txF f).length := (Array.length_toList (xs := (PyData.shown (datF f)).cps)).symm
  rw [l2, sizeLine_eq]
  omega
end

end K45
namespace K45
open PySem PySem.Spec PyProof.Rows L2 Evl Lw
open PySem.W in
/-- pairs of an int and more: the ints tell them apart -/
structure PairsOk (ds : List PyData) : Prop where
  sh : ∀ d ∈ ds, ∃ c e, d = .tuple [.int c, e]
  un : ∀ c e e', PyData.tuple [.int c, e] ∈ ds → PyData.tuple [.int c, e'] ∈ ds → e = e'
  re : ∀ d ∈ ds, PySem.W.alike d d = true
section
open PySem.W
theorem pair_reads {h : Heap} {v : Value} {c : Int} {e : PyData} {as : List Addr} (r : Reads h v (.tuple [.int c, e]) as) : ∃ a o xs n t g, v = .ref a ∧ h.get? a = some o ∧ o.data = .seq xs n ∧ xs.toList = [.int c t, g] := by
  cases r with
  | @tuple a o xs n _ _ ho hc hd hr =>
    cases q : xs.toList with
    | nil => rw [q] at hr; cases hr
    | cons f fr =>
      rw [q] at hr
      cases hr with
      | cons r1 r2 =>
        cases r1 with
        | int i t =>
          cases fr with
          | nil => cases r2
          | cons g gr =>
            cases r2 with
            | cons r3 r4 =>
              cases r4
              exact ⟨a, o, xs, n, t, g, rfl, ho, hd, q⟩
theorem pairs_uniq {ds : List PyData} (P : PairsOk ds) {h : Heap} {v : Value} {d d' : PyData} {as as' : List Addr} (hd : d ∈ ds) (hd' : d' ∈ ds) (r : Reads h v d as) (r' : Reads h v d' as') : d = d' := by
  obtain ⟨c, e, rfl⟩ := P.sh d hd
  obtain ⟨c', e', rfl⟩ := P.sh d' hd'
  obtain ⟨a, o, xs, n, t, g, rfl, h1, h2, h3⟩ := pair_reads r
  obtain ⟨a', o', xs', n', t', g', ea, h1', h2', h3'⟩ := pair_reads r'
  cases ea
  rw [h1] at h1'
  cases h1'
  rw [h2] at h2'
  cases h2'
  rw [h3] at h3'
  have ec : c = c' := by
    have := (List.cons.inj h3').1
    cases this
    rfl
  subst ec
  rw [P.un c e e' hd hd']
theorem pairKind_some {h : Heap} {ds : List PyData} (P : PairsOk ds) {v : Value} {d : PyData} {as : List Addr} (hd : d ∈ ds) (r : Reads h v d as) : (dataKind h ds).keyOf v = some (keyToks d) := by
  have q : ∃ d, d ∈ ds ∧ ∃ as, Reads h v d as := ⟨d, hd, as, r⟩
  have e : (dataKind h ds).keyOf v = some (keyToks q.choose) := by
    show (open Classical in if q : ∃ d, d ∈ ds ∧ ∃ as, Reads h v d as then some (keyToks q.choose) else none) = _
    rw [dif_pos q]
  obtain ⟨h1, as', h2⟩ := q.choose_spec
  rw [e, pairs_uniq P h1 hd h2 r]
theorem pair_lt {c c' : Int} (n : c ≠ c') (e e' : PyData) : dataLt (.tuple [.int c, e]) (.tuple [.int c', e']) = decide (c < c') := by
  rw [dataLt_tuple]
  show PyProof.Rows.lexLt itemOrd ([.inl 1] ++ (.inl c :: keyToksAll [e])) ([.inl 1] ++ (.inl c' :: keyToksAll [e'])) = _
  rw [lex_pre, lex_atom (fun z => n (Sum.inl.inj z))]
  show (decide (c < c') || _) = _
  simp [n, show PyProof.Rows.lexLt itemOrd [] [] = false from rfl]
section
variable {prog : Program} {w : World} {A : Around} {E : Value → Shared → Prop} {s : Shared}
theorem sorts_pairs {vs : List Value} {ds : List PyData} (e : EachIs (fun v d => ∃ as, Reads s.heap v d as) vs ds) (P : PairsOk ds) (hu : ∀ d, d ∈ ds → A.units + d.depth < cLine) : SortsAt prog w A s (dataKind s.heap ds) vs := by
  have room : ∀ {d d' : PyData}, d ∈ ds → A.units + min d.depth d'.depth < cLine := fun {d d'} hd => Nat.lt_of_le_of_lt (Nat.add_le_add_left (Nat.min_le_left _ _) _) (hu d hd)
  refine ⟨fun v hv => ?_, ?_⟩
  · obtain ⟨d, hd, as, r⟩ := e.left v hv
    exact ⟨_, pairKind_some P hd r⟩
  · have ht : ∀ d, d ∈ ds → ∃ x r, d = .tuple (x :: r) := fun d hd => let ⟨c, e, h⟩ := P.sh d hd; ⟨_, _, h⟩
    refine ⟨tuples' (dataType (.int 0) != Value.type "tuple"), ?_, fun h2 E Q hq => ?_⟩
    · intro E x y a b Q ha hb hq
      obtain ⟨d, as, hd, ra, rfl⟩ := dataKind_inv ha
      obtain ⟨d', as', hd', rb, rfl⟩ := dataKind_inv hb
      have hroom := room (d' := d') hd
      obtain ⟨c, e1, rfl⟩ := P.sh d hd
      obtain ⟨c', e2, rfl⟩ := P.sh d' hd'
      have hq' : Q (dataLt (.tuple [.int c, e1]) (.tuple [.int c', e2])) s := hq
      by_cases n : c = c'
      · subst n
        obtain rfl := P.un c e1 e2 hd hd'
        have al := P.re _ hd
        rw [dataLt_tuple] at hq'
        cases ra with
        | @tuple l o xs n _ _ h1 h2 h3 h4 =>
          cases rb with
          | @tuple l' o' xs' n' _ _ k1 k2 k3 k4 =>
            have n1 : xs.size = [PyData.int c, e1].length := by simpa using SeqAt.ReadsAll.length _ _ _ h4
            have n2 : xs'.size = [PyData.int c, e1].length := by simpa using SeqAt.ReadsAll.length _ _ _ k4
            refine kat_lt h1 h3 k1 k3 (katLex_alike [.int c, e1] [.int c, e1] 0 _ _ _ _ h4 k4 (by simpa [alike] using al) (by have q := SeqAt.room_in hroom; omega) (fun hb _ x r t ex => ?_) (by rw [n1, n2]) hq')
            obtain ⟨rfl, _⟩ := List.cons.inj ex
            exact fun z => by cases z
      · obtain ⟨a, o, xs, nn, t, g, rfl, h1, h2, h3⟩ := pair_reads ra
        obtain ⟨a', o', xs', nn', t', g', rfl, h1', h2', h3'⟩ := pair_reads rb
        refine kat_lt h1 h2 h1' h2' ?_
        rw [h3, h3']
        refine kat_cons (wpAny_eqBool_int ?_)
        rw [show (c == c') = false from beq_eq_false_iff_ne.mpr n]
        show wpAny _ _ (oneLt' (true && true) (.int c t) (.int c' t')) Q _ s
        refine oneLt_int ?_
        rw [pair_lt n] at hq'
        exact hq'
    · obtain ⟨fs, t1, t2, t3⟩ := each_katTups e ht
      refine kat_kind (T := dataType (.int 0)) t1 (by omega) (fun f hf => ?_) (beq_self_eq_true _) hq
      obtain ⟨x, r, as, m1, m2⟩ := t3 f hf
      obtain ⟨c, e', h⟩ := P.sh _ m1
      have hx : x = .int c := by
        have := PyData.tuple.inj h
        exact (List.cons.inj this).1
      subst hx
      show Looks _ _ _ (dataType (.int c))
      exact looks_reads m2
theorem sorted_pairs {β : Type} {vs : List Value} {bs : List β} {enc : β → PyData} {R : Value → β → Prop} {l : Addr} {Q : Value → Shared → Prop} (hl : s.heap.IsList l vs.toArray) (e : EachIs R vs bs) (er : EachIs (fun v b => ∃ as, Reads s.heap v (enc b) as) vs bs) (P : PairsOk (bs.map enc)) (hL : bs.length ≤ sizeLine)
    (hu : ∀ b, b ∈ bs → A.units + 2 + (enc b).depth < cLine) (h : ∀ out, out.length = bs.length → EachIs R out (bs.mergeSort (dataLe false enc)) → Q (.ref (s.heap.objs.size + 1)) { s with heap := sortedAll s.heap vs (List.toArray out) }) :
    wpAny (model prog w) A (call (.builtin "sorted") [.ref l]) Q E s := by
  have er' : EachIs (fun v b => ∃ as, Reads (sortingHeap (copyHeap s.heap vs) (s.heap.objs.size + 1) vs) v (enc b) as) vs bs := er.mono fun _ _ ⟨as, r⟩ => ⟨as, PyProof.Rows.Reads.keeps (fun _ _ => sorting_copy_old) r⟩
  have em := each_map (R := fun v d => ∃ as, Reads (sortingHeap (copyHeap s.heap vs) (s.heap.objs.size + 1) vs) v d as) enc er'
  exact sorted_vals hl (sorts_pairs (s := { s with heap := sortingHeap (copyHeap s.heap vs) (s.heap.objs.size + 1) vs }) em P (bound_map hu)) (by rw [e.length]; exact hL)
    (h _ (by rw [sortVals_length false rfl]; exact e.length) (sortVals_each (κ := dataKind (sortingHeap (copyHeap s.heap vs) (s.heap.objs.size + 1) vs) (bs.map enc)) (fun b => keyToks (enc b)) e (each_of_map enc ((each_mem em).mono fun _ _ ⟨⟨_, r⟩, hd⟩ => pairKind_some P hd r))))
end
variable {X : Cx}
def rSortedPr (K : PySem.W.Frag) (β : Type) : List V → Hp → VK → Prop := fun vs H Q => ∃ (a : Addr) (bs : List β) (val : β → V) (enc : β → PyData), vs = [V.ref a] ∧ SqL K H a (bs.map val) ∧ (∀ b ∈ bs, Dp K H (val b) (enc b) ∧ (enc b).depth ≤ 60) ∧ PairsOk (bs.map enc) ∧
  ∀ (cs : List β) (p : Addr), cs.Perm bs → cs.Pairwise (fun y z => Lw.dlt (enc z) (enc y) = false) → H p = none → Q (.ref p) (upd H p (.lst (cs.map val)))
theorem cr_sortedPr {β : Type} (hu : X.A.units + 64 < cLine) : CallR X (.builtin "sorted") (rSortedPr X.K β) := by
  intro pins s σ H vs us Q I r h
  obtain ⟨a, bs, val, enc, rfl, hs, hd, P, q⟩ := h
  obtain ⟨its, rv, hl, hz⟩ := I.list hs
  obtain ⟨u, rfl, ru⟩ := vals1 r
  obtain rfl : u = Value.ref a := ru
  have er : ∀ {bs : List β} {its : List Value}, Vals (bs.map val) its → (∀ y ∈ bs, Dp X.K H (val y) (enc y) ∧ (enc y).depth ≤ 60) → EachIs (fun v y => ∃ as, Reads s.heap v (enc y) as) its bs := by
    intro bs
    induction bs with
    | nil => intro its rv _; cases rv; exact .nil
    | cons b bs ih =>
      intro its rv hd
      cases rv with
      | cons r t => exact .cons (Dp.reads I _ _ _ (hd _ List.mem_cons_self).1 r) (ih t fun y m => hd y (List.mem_cons_of_mem _ m))
  have ee : ∀ {bs : List β} {its : List Value}, Vals (bs.map val) its → EachIs (fun v y => RelV (val y) v) its bs := by
    intro bs
    induction bs with
    | nil => intro its rv; cases rv; exact .nil
    | cons b bs ih =>
      intro its rv
      cases rv with
      | cons r t => exact .cons r (ih t)
  have ff : ∀ {bs : List β} {its : List Value}, EachIs (fun v y => RelV (val y) v) its bs → Vals (bs.map val) its := by
    intro bs
    induction bs with
    | nil => intro its rv; cases rv; exact .nil
    | cons b bs ih =>
      intro its rv
      cases rv with
      | cons r t => exact .cons r (ih t)
  rw [List.length_map] at hz
  refine sorted_pairs hl.isList (ee rv) (er rv hd) P hz (fun y m => ?_) fun out hlen ho => ?_
  · have := (hd y m).2
    omega
  · obtain ⟨e, he⟩ := sortedAll_at s.heap its out.toArray
    have hp := List.mergeSort_perm bs (dataLe false enc)
    have tl := sortLe_total (listOrd itemOrd) false fun y : β => keyToks (enc y)
    have hsrt := List.pairwise_mergeSort (le := dataLe false enc) tl.trans (fun a b => by rw [Bool.or_eq_true]; exact tl.total a b) bs
    refine ⟨.ref _, _, I.laid (t' := s.toks) (fun b u e => sortedAll_old e) (Nat.le_succ _) (o := .lst ((bs.mergeSort (dataLe false enc)).map val)) ⟨by rw [List.length_map, hp.length_eq]; exact hz, out, e, ff ho, he⟩, rfl, q _ _ hp (hsrt.imp fun {y z} h => ?_) (I.hok.fresh (Nat.le_succ _))⟩
    have h' : (!(listOrd itemOrd).blt (keyToks (enc z)) (keyToks (enc y))) = true := h
    rw [Bool.not_eq_true'] at h'
    exact h'
end

end K45
namespace K45
open PySem PySem.Spec PyProof.Rows L2 Evl Lw
section
variable {P : Program} {w : World} {K : PySem.W.Frag} {mg : Str → Option Value} {base : Heap}
/-- a form that can be reduced -/
def RedAt (H : Hp) (l : List Sfc) (v : V) (f : Fo.Form Cell) : Prop := ∃ (d : VD) (S : List Cell) (C : List Int), VAt H v d ∧ dpV d ≤ 25 ∧ wdV d ≤ 50000 ∧ isF l d = true ∧ FormAt H v f ∧ Fo.Ok (fun c => c ∈ C) (fun _ => True) (fun k => k ∈ S) f ∧ S.length ≤ 5 ∧ C.length ≤ 6 ∧ dpF f ≤ 18 ∧ szF f ≤ 20000
theorem RedAt.up {H H' : Hp} {l : List Sfc} {v : V} {f : Fo.Form Cell} (e : Ex H H') (h : RedAt H l v f) : RedAt H' l v f := let ⟨d, S, C, a, b, c, g, k, r⟩ := h; ⟨d, S, C, VAt.up e a, b, c, g, k.up e, r⟩
def spSame (K : PySem.W.Frag) : Sp := fun vs H Q _ => ∃ (a : Addr) (v u : V) (l : List Sfc) (f g : Fo.Form Cell), vs = [.ref a, v, u] ∧ Sg H (.ref a) (some l) ∧ RedAt H l v f ∧ RedAt H l u g ∧ ∀ H', Ex H H' → Q (.bl (decide (Fo.redN ltC 5 f = Fo.redN ltC 5 g))) H'
theorem c_same_value (T : Txt K mg) : Cl P w K mg base CX0 41 "same_value" s_same_value ["stage", "form", "other_form"] (spSame K) := by
  refine cl_of (k := 40) T.d_same_value sc_same_value (fun vs H Q E h => ?_) (fun f cdv A outer s H vs Q E hr h => ?_)
  · obtain ⟨a, v, u, l, fo, go, rfl, _⟩ := h
    rfl
  · obtain ⟨a, v, u, l, fo, go, rfl, sg, rf, rg, q⟩ := h
    have nd := sc_same_value.nd
    refine ⟨_, (pss_cons (ps_expr (Lw.pe_cl (c_check_stage T) b_check_stage hr (by decide) (by rfl) pass0 (pa_cons (pv 0) pa_nil)))
      (pss_cons (ps_expr (Lw.pe_cl (c_check_form T) b_check_form hr (by decide) (by rfl) pass0 (pa_cons (pv 0) (pa_cons (pv 1) pa_nil))))
      (pss_cons (ps_expr (Lw.pe_cl (c_check_form T) b_check_form hr (by decide) (by rfl) pass0 (pa_cons (pv 0) (pa_cons (pv 2) pa_nil))))
      (pss_one (ps_ret (pe_cmpR (op_eqD hr.units) (Lw.pe_cl (c_reduce T 6) b_reduce hr (by decide) (by rfl) pass0 (pa_cons (pv 1) pa_nil)) (Lw.pe_cl (c_reduce T 6) b_reduce hr (by decide) (by rfl) pass0 (pa_cons (pv 2) pa_nil)) (nomark _))))))), ?_⟩
    repeat fail "st"
    refine ⟨.ref a, l, rfl, sg, fun H1 e1 => ?_⟩
    obtain ⟨a', ea, hl⟩ := stage_some (K := K) (sg.up e1)
    obtain rfl : a = a' := V.ref.inj ea
    have rf := rf.up e1
    have rg := rg.up e1
    obtain ⟨d1, S1, C1, v1, n1, w1, i1, f1, k1, l1, m1, x1, z1⟩ := id rf
    obtain ⟨d2, S2, C2, v2, n2, w2, i2, f2, k2, l2, m2, x2, z2⟩ := id rg
    repeat fail "st"
    refine ⟨a, v, l, d1, rfl, hl, v1, n1, w1, i1, fun H2 e2 => ?_⟩
    have hl := hl.up e2
    have v2 := VAt.up e2 v2
    repeat fail "st"
    refine ⟨a, u, l, d2, rfl, hl, v2, n2, w2, i2, fun H3 e3 => ?_⟩
    have f1 := f1.up (e2.trans e3)
    have f2 := f2.up (e2.trans e3)
    repeat fail "st"
    refine ⟨v, fo, S1, C1, rfl, f1, k1, by omega, m1, by omega, x1, z1, fun v' H4 e4 h4 => ?_⟩
    have f2 := f2.up e4
    repeat fail "st"
    refine ⟨u, go, S2, C2, rfl, f2, k2, by omega, m2, by omega, x2, z2, fun u' H5 e5 h5 => ?_⟩
    replace h4 : FormAt H5 v' (Fo.redN ltC 5 fo) := h4.up e5
    replace h5 : FormAt H5 u' (Fo.redN ltC 5 go) := h5
    obtain ⟨r1, _⟩ := red_size ltC m1 5 fo S1 k1 l1
    obtain ⟨r2, _⟩ := red_size ltC m2 5 go S2 k2 l2
    refine eq_form h4 h5 (by omega) (by omega) ?_
    exact q H5 (e1.trans (e2.trans (e3.trans (e4.trans e5))))
end

end K45
namespace K45
open PySem PySem.Spec PyProof.Rows L2 Evl Lw
section
variable {P : Program} {w : World} {K : PySem.W.Frag} {mg : Str → Option Value} {base : Heap}
def keyC (k : Cell) : List Key := [.inr k.1, .inl k.2.1, .inl k.2.2]
theorem keyC_kv (k : Cell) : (keyC k).map kV = [V.str k.1, .int k.2.1, .int k.2.2] := rfl
theorem keyC_inj {k l : Cell} (h : keyC k = keyC l) : k = l := by
  obtain ⟨n, x, y⟩ := k
  obtain ⟨m, u, v⟩ := l
  simp only [keyC, List.cons.injEq, Sum.inr.injEq, Sum.inl.injEq, and_true] at h
  obtain ⟨h1, h2, h3⟩ := h
  rw [h1, h2, h3]
/-- the colours of cells, in a dict -/
def Known (H : Hp) (a : Addr) (S : List Cell) (ρ : Cell → Int) : Prop := ∃ kvs : List (List Key × V), H a = some (.dT kvs) ∧ ∀ k ∈ S, valV kvs (keyC k) = some (.int (ρ k))
theorem Known.up {H H' : Hp} {a : Addr} {S : List Cell} {ρ : Cell → Int} (e : Ex H H') (h : Known H a S ρ) : Known H' a S ρ := let ⟨k, a, b⟩ := h; ⟨k, e _ _ a, b⟩
theorem Known.get {H : Hp} {a b : Addr} {S : List Cell} {ρ : Cell → Int} {k : Cell} (h : Known H a S ρ) (hb : CellAt H b k) (m : k ∈ S) : DGet H a (.ref b) (some (.int (ρ k))) := by
  obtain ⟨kvs, h1, h2⟩ := h
  have := DGet.t (k := keyC k) h1 (show H b = some (.tup ((keyC k).map kV)) from hb.1)
  rw [h2 k m] at this
  exact this
def spVal (n : Nat) : Sp := fun vs H Q _ => ∃ (v : V) (d : Addr) (f : Fo.Form Cell) (S : List Cell) (ρ : Cell → Int), vs = [v, .ref d] ∧ FormAt H v f ∧ Known H d S ρ ∧ Fo.Ok (fun _ => True) (fun k => k ∈ S) (fun k => k ∈ S) f ∧ dpF f ≤ n ∧ ∀ H', Ex H H' → Q (.int (Fo.eval ρ f)) H'
theorem rowsOk_get {N : Int → Prop} {E A : Cell → Prop} : ∀ {r : Fo.Rows Cell}, Fo.OkR N E A r → ∀ p ∈ r.list, Fo.Ok N E A p.2
  | .nil, _, p, m => by cases m
  | .cons c f t, ⟨_, b, d⟩, p, m => by
    rcases List.mem_cons.mp m with rfl | m
    · exact b
    · exact rowsOk_get d p m
theorem evalR_at {ρ : Cell → Int} {v : Int} {c : Int} {g : Fo.Form Cell} : ∀ {r : Fo.Rows Cell} {i : Nat}, r.list[i]? = some (c, g) → (∀ p ∈ r.list.take i, v ≠ p.1) → v = c → Fo.evalR ρ v r = some (Fo.eval ρ g)
  | .nil, i, h, _, _ => by cases h
  | .cons d f t, 0, h, _, e => by
    obtain ⟨rfl, rfl⟩ := Prod.mk.inj (Option.some.inj h)
    exact if_pos e
  | .cons d f t, i + 1, h, no, e => by
    show (if v = d then some (Fo.eval ρ f) else Fo.evalR ρ v t) = _
    rw [if_neg (no (d, f) (by show (d, f) ∈ ((d, f) :: t.list).take (i + 1); rw [List.take_succ_cons]; exact List.mem_cons_self))]
    exact evalR_at (i := i) h (fun p m => no p (by show p ∈ ((d, f) :: t.list).take (i + 1); rw [List.take_succ_cons]; exact List.mem_cons_of_mem _ m)) e
theorem evalR_no {ρ : Cell → Int} {v : Int} : ∀ {r : Fo.Rows Cell}, (∀ p ∈ r.list, v ≠ p.1) → Fo.evalR ρ v r = none
  | .nil, _ => rfl
  | .cons d f t, no => by
    show (if v = d then some (Fo.eval ρ f) else Fo.evalR ρ v t) = _
    rw [if_neg (no (d, f) List.mem_cons_self)]
    exact evalR_no fun p m => no p (List.mem_cons_of_mem _ m)
theorem c_law_value (T : Txt K mg) : ∀ n : Nat, Cl P w K mg base CX0 n "_law_value" s_law_value ["_law_shape", "_law_known"] (spVal n)
  | 0 => cl_false T.d_law_value fun vs H Q E h => by
    obtain ⟨v, d, f, S, ρ, _, _, _, _, h, _⟩ := h
    have := dpF_pos f
    omega
  | n + 1 => by
    have ih_law_value := c_law_value T n
    refine cl_of (k := n) T.d_law_value sc_law_value (fun vs H Q E h => ?_) (fun f cdv A outer s H vs Q E hr h => ?_)
    · obtain ⟨v, d, f, S, ρ, rfl, _⟩ := h
      rfl
    · obtain ⟨v, d, fo, S, ρ, rfl, hf, hk, ok, hd, q⟩ := h
      have nd := sc_law_value.nd
      refine ⟨_, (pss_cons (ps_if (pt_cmpR op_eq (pe_ix ix_seq (pv 0) pe_int (fun _ _ => rfl)) pe_str (nomark _)) (pss_one (ps_ret (pe_ix ix_seq (pv 0) pe_int (fun _ _ => rfl)))) pss_nil)
      (pss_cons (ps_if (pt_cmpR op_eq (pe_ix ix_seq (pv 0) pe_int (fun _ _ => rfl)) pe_str (nomark _)) (pss_one (ps_ret (pe_dget (Lw.u1 hr.units) (pv 1) (pe_ix ix_seq (pv 0) pe_int (fun _ _ => rfl)) (fun _ _ => rfl)))) pss_nil)
      (pss_cons (ps_for PassesOwn.never rfl (pi_tup (pe_ix ix_seq (pv 0) pe_int (fun _ _ => rfl))) (pg_tup rfl (pgs_cons (pg_name (i := 2) nd rfl (Or.inl rfl)) (pgs_cons (pg_name (i := 3) nd rfl (Or.inl rfl)) pgs_nil))) (pss_one (ps_if (pt_cmpR op_eq (pe_dget (Lw.u1 hr.units) (pv 1) (pe_ix ix_seq (pv 0) pe_int (fun _ _ => rfl)) (fun _ _ => rfl)) (pv 2) (nomark _)) (pss_one (ps_ret (Lw.pe_cl ih_law_value b_law_value hr (by omega) (by rfl) pass0 (pa_cons (pv 3) (pa_cons (pv 1) pa_nil))))) pss_nil)))
      (pss_one (ps_ret (Lw.pe_cl ih_law_value b_law_value hr (by omega) (by rfl) pass0 (pa_cons (pe_ix ix_seq (pv 0) pe_int (fun _ _ => rfl)) (pa_cons (pv 1) pa_nil)))))))), ?_⟩
      cases hf with
      | col h =>
        repeat fail "st"
        exact q H (Ex.refl _)
      | cel h k =>
        repeat fail "st"
        exact ⟨d, _, rfl, hk.get k ok, q H (Ex.refl _)⟩
      | ask h k' t r' o' =>
        rename_i tf a r v k ws rows o
        obtain ⟨ka, _, okr, oko⟩ := ok
        have hd2 : 1 + max (dpR rows) (dpF o) ≤ n + 1 := hd
        have kg := hk.get k' ka
        repeat fail "st"
        refine for_tup (xs := ws) (fun i σ H' => ∃ y2 y3, σ = [some (.ref tf), some (.ref d), y2, y3] ∧ H' = H ∧ ∀ p ∈ rows.list.take i, ρ k ≠ p.1) ⟨_, _, rfl, rfl, fun p m => by simp at m⟩ ?_ ?_ ?_
        · rintro _ _ _ _ ⟨y2, y3, rfl, rfl, _⟩
          exact t.sq
        · rintro i x _ _ hx ⟨y2, y3, rfl, rfl, no⟩
          obtain ⟨p, u, c, g, rfl, hp, hg, hi⟩ := rows_get r' hx
          have mg := List.mem_of_getElem? hi
          have d1 : dpF g ≤ dpR rows := dpR_mem mg
          have okg := rowsOk_get okr _ mg
          repeat fail "st"
          refine ⟨d, _, rfl, kg, ?_⟩
          repeat fail "st"
          refine ifD (fun hb => ?_) (fun hb => ?_)
          · repeat fail "st"
            refine ⟨u, d, g, S, ρ, rfl, hg, hk, okg, by omega, fun H1 e1 => ?_⟩
            have ev : Fo.eval ρ (.ask k rows o) = Fo.eval ρ g := by
              show (Fo.evalR ρ (ρ k) rows).getD _ = _
              rw [evalR_at hi no (V.int.inj hb)]
              rfl
            rw [ev] at q
            exact q H1 e1
          · refine ⟨_, _, rfl, rfl, fun p m => ?_⟩
            rw [List.take_add_one, hi] at m
            rcases List.mem_append.mp m with m | m
            · exact no p m
            · obtain rfl : p = (c, g) := by simpa using m
              exact fun z => hb (congrArg V.int z)
        · rintro _ _ ⟨y2, y3, rfl, rfl, no⟩
          repeat fail "st"
          refine ⟨v, d, o, S, ρ, rfl, o', hk, oko, by omega, fun H1 e1 => ?_⟩
          have ev : Fo.eval ρ (.ask k rows o) = Fo.eval ρ o := by
            rw [rows_len r', List.take_length] at no
            show (Fo.evalR ρ (ρ k) rows).getD _ = _
            rw [evalR_no no]
            rfl
          rw [ev] at q
          exact q H1 e1
end

end K45
namespace K45
open PySem PySem.Spec PyProof.Rows L2 Evl Lw
section
variable {P : Program} {w : World} {K : PySem.W.Frag} {mg : Str → Option Value} {base : Heap}
theorem endsR_of (s : Cell) (d : Int) : ∀ r : Fo.Rows Cell, Fo.Rows.of (r.list.map fun p => (p.1, Fo.endsA s d p.2)) = Fo.endsR s d r
  | .nil => rfl
  | .cons c f t => by
    show Fo.Rows.cons c (Fo.endsA s d f) (.of (t.list.map _)) = .cons c (Fo.endsA s d f) (Fo.endsR s d t)
    rw [endsR_of s d t]
def spEnds (n : Nat) : Sp := fun vs H Q _ => ∃ (v : V) (f : Fo.Form Cell) (a : Addr) (s : Cell) (c : Int), vs = [v, .ref a, .int c] ∧ FormAt H v f ∧ CellAt H a s ∧ dpF f ≤ n ∧ dpF f ≤ 18 ∧ szF f ≤ 50000 ∧ ∀ v' H', Ex H H' → FormAt H' v' (Fo.endsA s c f) → Q v' H'
theorem c_law_ends_asked (T : Txt K mg) : ∀ n : Nat, Cl P w K mg base CX0 n "_law_ends_asked" s_law_ends_asked ["_law_shape", "_law_spot", "_law_colour"] (spEnds n)
  | 0 => cl_false T.d_law_ends_asked fun vs H Q E h => by
    obtain ⟨v, f, a, s, c, _, _, _, h, _⟩ := h
    have := dpF_pos f
    omega
  | n + 1 => by
    have ih_law_ends_asked := c_law_ends_asked T n
    refine cl_of (k := n) T.d_law_ends_asked sc_law_ends_asked (fun vs H Q E h => ?_) (fun f cdv A outer st H vs Q E hr h => ?_)
    · obtain ⟨v, f, a, s, c, rfl, _⟩ := h
      rfl
    · obtain ⟨v, fo, ka, s, c, rfl, hf, hk, hd, h18, hs, q⟩ := h
      have nd := sc_law_ends_asked.nd
      refine ⟨_, (pss_cons (ps_if (pt_cmpR (op_eqD hr.units) (pv 0) (pe_tup (pa_cons pe_str (pa_cons (pv 1) pa_nil))) (nomark _)) (pss_one (ps_ret (pe_tup (pa_cons pe_str (pa_cons (pv 1) (pa_cons (Lw.pe_tupF (pa_cons (pe_tup (pa_cons (pv 2) (pa_cons (pe_tup (pa_cons pe_str (pa_cons (pv 2) pa_nil))) pa_nil))) pa_nil)) (pa_cons (pv 0) pa_nil))))))) pss_nil)
      (pss_cons (ps_if (pt_cmpR op_ne (pe_ix ix_seq (pv 0) pe_int (fun _ _ => rfl)) pe_str (nomark _)) (pss_one (ps_ret (pv 0))) pss_nil)
      (pss_cons (ps_setLc (own := [("_law_tint", 4), ("_law_inner", 5)]) (g := gTup K 2 (gCons (gName 4) (gCons (gName 5) (gNil)))) (tt := tYes) (i := 3) rfl nd rfl rfl (sw_true rfl rfl rfl (by decide +kernel)) (pi_tup (pe_ix ix_seq (pv 0) pe_int (fun _ _ => rfl))) (L2.blkOk_by (N := N_law_ends_asked) (sc := defScope s_law_ends_asked) (by decide +kernel)) (fun _ _ _ _ _ => (pg_tup rfl (pgs_cons (pg_name (i := 4) nd rfl (Or.inl rfl)) (pgs_cons (pg_name (i := 5) nd rfl (Or.inl rfl)) pgs_nil)))) (fun _ _ _ _ _ => pts_nil) (fun _ _ _ _ _ => (pe_tup (pa_cons (pv 4) (pa_cons (Lw.pe_cl ih_law_ends_asked b_law_ends_asked hr (by omega) (by rfl) pass0 (pa_cons (pv 5) (pa_cons (pv 1) (pa_cons (pv 2) pa_nil)))) pa_nil)))))
      (pss_one (ps_ret (pe_tup (pa_cons pe_str (pa_cons (pe_ix ix_seq (pv 0) pe_int (fun _ _ => rfl)) (pa_cons (pe_callTy (Lw.cr_tupF) (by rfl) T.b_tuple bt_tuple (pa_cons (pv 3) pa_nil)) (pa_cons (Lw.pe_cl ih_law_ends_asked b_law_ends_asked hr (by omega) (by rfl) pass0 (pa_cons (pe_ix ix_seq (pv 0) pe_int (fun _ _ => rfl)) (pa_cons (pv 1) (pa_cons (pv 2) pa_nil)))) pa_nil)))))))))), ?_⟩
      rw [show L2.start N_law_ends_asked [v, V.ref ka, V.int c] = [some v, some (V.ref ka), some (V.int c), none, none, none] from rfl]
      repeat fail "st"
      intro t1 n_t1
      generalize hh : upd _ t1 _ = H_t1
      have e_t1 := newEx hh n_t1
      have h_t1 := newAt hh
      clear hh
      refine eq_form (hf.up e_t1) (.cel h_t1 (hk.up e_t1)) h18 (by show 1 ≤ 18; decide) ?_
      repeat fail "st"
      have hk := hk.up e_t1
      have hf := hf.up e_t1
      refine ifD (fun hb => ?_) (fun hb => ?_)
      · repeat fail "st"
        intro t2 n_t2
        generalize hh : upd _ t2 _ = H_t2
        have e_t2 := newEx hh n_t2
        have h_t2 := newAt hh
        clear hh
        repeat fail "st"
        intro t3 n_t3
        generalize hh : upd _ t3 _ = H_t3
        have e_t3 := newEx hh n_t3
        have h_t3 := newAt hh
        clear hh
        repeat fail "st"
        intro t4 o4 n4 d4
        generalize hh : upd _ t4 _ = H_t4
        have e_t4 := newEx hh n4
        have h_t4 := newAt hh
        clear hh
        repeat fail "st"
        intro t5 n_t5
        generalize hh : upd _ t5 _ = H_t5
        have e_t5 := newEx hh n_t5
        have h_t5 := newAt hh
        clear hh
        refine q _ _ (e_t1.trans (e_t2.trans (e_t3.trans (e_t4.trans e_t5)))) ?_
        have e1 := e_t4.trans e_t5
        have e2 := e_t3.trans e1
        subst hb
        rw [show Fo.endsA s c (.cel s) = .ask s (.cons c (.col c) .nil) (.cel s) from if_pos rfl]
        exact .ask h_t5 (hk.up (e_t2.trans e2)) ⟨o4, d4, e_t5 _ _ h_t4⟩ (.cons (e1 _ _ h_t3) (.col (e2 _ _ h_t2)) .nil) (hf.up (e_t2.trans e2))
      · cases hf with
        | col h =>
          repeat fail "st"
          exact q _ _ e_t1 (.col h)
        | cel h k =>
          repeat fail "st"
          refine q _ _ e_t1 ?_
          rw [show ∀ l : Cell, Fo.Form.cel l ≠ Fo.Form.cel s → Fo.endsA s c (.cel l) = .cel l from fun l n => if_neg fun z => n (by rw [z])]
          · exact .cel h k
          · exact hb
        | ask h k' t r' o' =>
          rename_i tf a r v k ws rows o
          have hdo : dpF o ≤ n ∧ dpF o ≤ 18 := by
            have h1 : 1 + max (dpR rows) (dpF o) ≤ n + 1 := hd
            have h2 : 1 + max (dpR rows) (dpF o) ≤ 18 := h18
            omega
          have hdr : dpR rows ≤ n ∧ dpR rows ≤ 18 := by
            have h1 : 1 + max (dpR rows) (dpF o) ≤ n + 1 := hd
            have h2 : 1 + max (dpR rows) (dpF o) ≤ 18 := h18
            omega
          have hsz : 1 + (szR rows + szF o) ≤ 50000 := hs
          repeat fail "st"
          intro D hD
          have hlw : ws.length ≤ 50000 := by
            rw [rows_len r']
            have := list_len rows
            omega
          refine lcT (All (MadeAt (Fo.endsA s c) rows.list)) (all_mono MadeAt.ext) hD t.sq hlw (fun i x hi H1 e1 Q1 Q2 q1 q2 => ?_) (fun H1 os e1 hl hD1 hp => ?_)
          · obtain ⟨p, u, c', g, rfl, hp, hg, hi'⟩ := rows_get r' hi
            have mg := List.mem_of_getElem? hi'
            have d1 : dpF g ≤ dpR rows := dpR_mem mg
            have z1 : szF g ≤ szR rows := szR_mem mg
            have hp1 := e1 _ _ hp
            have hg1 := hg.up e1
            have hk1 := hk.up e1
            repeat fail "st"
            refine ⟨u, g, ka, s, c, rfl, hg1, hk1, by omega, by omega, by omega, fun v' H2 e2 hf2 => ?_⟩
            repeat fail "st"
            intro tp n_tp
            generalize hh : upd _ tp _ = H_tp
            have e_tp := newEx hh n_tp
            have h_tp := newAt hh
            clear hh
            exact q1 _ _ (e2.trans e_tp) ⟨_, rfl, tp, v', c', g, rfl, hi', h_tp, hf2.up e_tp⟩
          · obtain ⟨ys, ey, ly, hy⟩ := All.end hp
            rw [ey] at hD1
            rw [hl, rows_len r'] at ly
            have rm := made_rows ly hy
            rw [endsR_of] at rm
            have o3 := o'.up e1
            have hk3 := hk.up e1
            have k3 := k'.up e1
            have h := e1 _ _ h
            have eA := e_t1.trans e1
            clear hp hy hl ly ey e1
            try dsimp only [List.set]
            repeat fail "st"
            intro rl ob n_r hob
            generalize hh : upd _ rl _ = H_r
            have e_r := newEx hh n_r
            have h_r := newAt hh
            clear hh
            have h := e_r _ _ h
            have o3 := o3.up e_r
            have hk3 := hk3.up e_r
            have k3 := k3.up e_r
            have rm3 := RowsAt.up e_r rm
            repeat fail "st"
            refine ⟨v, o, ka, s, c, rfl, o3, hk3, hdo.1, hdo.2, by omega, fun v' H' e hf' => ?_⟩
            repeat fail "st"
            intro fo n_fo
            generalize hh : upd _ fo _ = H_fo
            have e_fo := newEx hh n_fo
            have h_fo := newAt hh
            clear hh
            refine q _ _ (eA.trans (e_r.trans (e.trans e_fo))) ?_
            exact .ask h_fo (k3.up (e.trans e_fo)) ⟨ob, hob, e_fo _ _ (e _ _ h_r)⟩ (RowsAt.up (e.trans e_fo) rm3) (hf'.up e_fo)
end

end K45
namespace K45
open PySem PySem.Spec PyProof.Rows L2 Evl Lw
section
variable {P : Program} {w : World} {K : PySem.W.Frag} {mg : Str → Option Value} {base : Heap}
mutual
theorem alike_form : ∀ f : Fo.Form Cell, PySem.W.alike (datF f) (datF f) = true
  | .col _ => rfl
  | .cel _ => rfl
  | .ask k r o => by
    show (true && (true && (PySem.W.alikeAll (datR r) (datR r) && (PySem.W.alike (datF o) (datF o) && true)))) = true
    rw [alike_rows r, alike_form o]
    rfl
theorem alike_rows : ∀ r : Fo.Rows Cell, PySem.W.alikeAll (datR r) (datR r) = true
  | .nil => rfl
  | .cons c f t => by
    show ((true && (PySem.W.alike (datF f) (datF f) && true)) && PySem.W.alikeAll (datR t) (datR t)) = true
    rw [alike_rows t, alike_form f]
    rfl
end
theorem moreR_of (d : Int) : ∀ r : Fo.Rows Cell, Fo.Rows.of (r.list.map fun p => (p.1, Fo.moreB d p.2)) = Fo.moreR d r
  | .nil => rfl
  | .cons c f t => by
    show Fo.Rows.cons c (Fo.moreB d f) (.of (t.list.map _)) = .cons c (Fo.moreB d f) (Fo.moreR d t)
    rw [moreR_of d t]
theorem perm_asc : ∀ {xs ys : List (Int × Fo.Form Cell)}, xs.Perm ys → xs.Pairwise (fun a b => a.1 < b.1) → ys.Pairwise (fun a b => a.1 < b.1) → xs = ys
  | [], ys, p, _, _ => (List.nil_perm.mp p).symm
  | x :: xs, [], p, _, _ => absurd (List.perm_nil.mp p) (by simp)
  | x :: xs, y :: ys, p, hx, hy => by
    have hx' := List.pairwise_cons.mp hx
    have hy' := List.pairwise_cons.mp hy
    have e : x = y := by
      rcases List.mem_cons.mp (p.subset List.mem_cons_self) with e | m1
      · exact e
      rcases List.mem_cons.mp (p.symm.subset (List.mem_cons_self (a := y))) with e | m2
      · exact e.symm
      have := hy'.1 x m1
      have := hx'.1 y m2
      omega
    subst e
    rw [perm_asc p.cons_inv hx'.2 hy'.2]
theorem ins_perm (c : Int) (g : Fo.Form Cell) : ∀ r : Fo.Rows Cell, (Fo.insR c g r).list.Perm (r.list ++ [(c, g)])
  | .nil => List.Perm.refl _
  | .cons d f t => by
    show (if c < d then Fo.Rows.cons c g (.cons d f t) else .cons d f (Fo.insR c g t)).list.Perm (((d, f) :: t.list) ++ [(c, g)])
    split
    · exact (List.perm_append_singleton (c, g) ((d, f) :: t.list)).symm
    · exact (ins_perm c g t).cons _
theorem rows_of_list : ∀ r : Fo.Rows Cell, Fo.Rows.of r.list = r
  | .nil => rfl
  | .cons c f t => by show Fo.Rows.cons c f (Fo.Rows.of t.list) = _; rw [rows_of_list t]
theorem cols_list : ∀ r : Fo.Rows Cell, Fo.cols r = r.list.map (·.1)
  | .nil => rfl
  | .cons c f t => by show c :: Fo.cols t = c :: t.list.map (·.1); rw [cols_list t]
mutual
theorem dp_more (c : Int) : ∀ f : Fo.Form Cell, dpF (Fo.moreB c f) ≤ dpF f
  | .col _ => Nat.le_refl _
  | .cel _ => Nat.le_refl _
  | .ask k r o => by
    have h1 := dp_more c o
    have h2 := dp_moreR c r
    show 1 + max (dpR (if c ∈ Fo.cols r then Fo.moreR c r else Fo.insR c (Fo.moreB c o) (Fo.moreR c r))) (dpF (Fo.moreB c o)) ≤ 1 + max (dpR r) (dpF o)
    split
    · omega
    · have h3 := dp_ins c (Fo.moreB c o) (Fo.moreR c r)
      omega
theorem dp_moreR (c : Int) : ∀ r : Fo.Rows Cell, dpR (Fo.moreR c r) ≤ dpR r
  | .nil => Nat.le_refl _
  | .cons d f t => by
    have h1 := dp_more c f
    have h2 := dp_moreR c t
    show max (dpF (Fo.moreB c f)) (dpR (Fo.moreR c t)) ≤ max (dpF f) (dpR t)
    omega
theorem dp_ins (c : Int) (g : Fo.Form Cell) : ∀ r : Fo.Rows Cell, dpR (Fo.insR c g r) ≤ max (dpF g) (dpR r)
  | .nil => by show max (dpF g) 0 ≤ max (dpF g) 0; omega
  | .cons d f t => by
    have ih := dp_ins c g t
    show dpR (if c < d then .cons c g (.cons d f t) else .cons d f (Fo.insR c g t)) ≤ max (dpF g) (max (dpF f) (dpR t))
    split
    · show max (dpF g) (max (dpF f) (dpR t)) ≤ _
      omega
    · show max (dpF f) (dpR (Fo.insR c g t)) ≤ _
      omega
end
/-- a row, with its value -/
def TripAt (H : Hp) (b : V × Int × Fo.Form Cell) : Prop := ∃ p v, b.1 = .ref p ∧ H p = some (.tup [.int b.2.1, v]) ∧ FormAt H v b.2.2
theorem TripAt.up {H H' : Hp} {b : V × Int × Fo.Form Cell} (e : Ex H H') (h : TripAt H b) : TripAt H' b := let ⟨p, v, a, c, d⟩ := h; ⟨p, v, a, e _ _ c, d.up e⟩
theorem rows_trip {H : Hp} : ∀ {ys : List V} {r : Fo.Rows Cell}, RowsAt H ys r → ∃ bs : List (V × Int × Fo.Form Cell), ys = bs.map (·.1) ∧ r.list = bs.map (·.2) ∧ ∀ b ∈ bs, TripAt H b
  | _, _, .nil => ⟨[], rfl, rfl, fun b m => by cases m⟩
  | _, _, .cons (p := p) (v := v) (c := c) (f := f) hp hf t => by
    obtain ⟨bs, e1, e2, h⟩ := rows_trip t
    refine ⟨(.ref p, c, f) :: bs, by rw [e1]; rfl, ?_, fun b m => ?_⟩
    · show (c, f) :: _ = (c, f) :: _
      rw [e2]
    · rcases List.mem_cons.mp m with rfl | m
      · exact ⟨p, v, rfl, hp, hf⟩
      · exact h b m
theorem trip_rows {H : Hp} : ∀ {cs : List (V × Int × Fo.Form Cell)}, (∀ b ∈ cs, TripAt H b) → RowsAt H (cs.map (·.1)) (Fo.Rows.of (cs.map (·.2)))
  | [], _ => .nil
  | b :: cs, h => by
    obtain ⟨p, v, e1, h1, h2⟩ := h b List.mem_cons_self
    show RowsAt H (b.1 :: cs.map (·.1)) (.cons b.2.1 b.2.2 (.of (cs.map (·.2))))
    rw [e1]
    exact .cons h1 h2 (trip_rows fun b m => h b (List.mem_cons_of_mem _ m))
def encB (b : V × Int × Fo.Form Cell) : PyData := .tuple [.int b.2.1, datF b.2.2]
theorem in_ints {c : Int} {xs : List Int} : inV (.int c) (xs.map V.int) = decide (c ∈ xs) := by
  unfold inV
  rw [List.any_map, Bool.eq_iff_iff, List.any_eq_true, decide_eq_true_iff]
  constructor
  · rintro ⟨x, m, e⟩
    have : x = c := by
      have e' : eqV (.int x) (.int c) = true := e
      simpa [eqV] using e'
    rw [← this]
    exact m
  · intro m
    exact ⟨c, m, by show eqV (.int c) (.int c) = true; simp [eqV]⟩
theorem flat_ints (xs : List Int) : (xs.map V.int).all flatV = true := by
  rw [List.all_map, List.all_eq_true]
  intro x _
  rfl
def spMore (n : Nat) : Sp := fun vs H Q _ => ∃ (v : V) (f : Fo.Form Cell) (c : Int) (N : Int → Prop) (E A : Cell → Prop), vs = [v, .int c] ∧ FormAt H v f ∧ Fo.Ok N E A f ∧ dpF f ≤ n ∧ dpF f ≤ 18 ∧ szF f ≤ 20000 ∧ ∀ v' H', Ex H H' → FormAt H' v' (Fo.moreB c f) → Q v' H'
set_option maxHeartbeats 4000000 in
theorem c_law_more_branches (T : Txt K mg) : ∀ n : Nat, Cl P w K mg base CX0 n "_law_more_branches" s_law_more_branches ["_law_shape", "_law_colour"] (spMore n)
  | 0 => cl_false T.d_law_more_branches fun vs H Q E h => by
    obtain ⟨v, f, c, N, E', A, _, _, _, h, _⟩ := h
    have := dpF_pos f
    omega
  | n + 1 => by
    have ih_law_more_branches := c_law_more_branches T n
    refine cl_of (k := n) T.d_law_more_branches sc_law_more_branches (fun vs H Q E h => ?_) (fun f cdv A outer st H vs Q E hr h => ?_)
    · obtain ⟨v, f, c, N, E', A, rfl, _⟩ := h
      rfl
    · obtain ⟨v, fo, c, N, E', AA, rfl, hf, ok, hd, h18, hs, q⟩ := h
      have nd := sc_law_more_branches.nd
      refine ⟨_, (pss_cons (ps_if (pt_cmpR op_ne (pe_ix ix_seq (pv 0) pe_int (fun _ _ => rfl)) pe_str (nomark _)) (pss_one (ps_ret (pv 0))) pss_nil)
      (pss_cons (ps_setLc (own := [("_law_tint", 4), ("_law_inner", 5)]) (g := gTup K 2 (gCons (gName 4) (gCons (gName 5) (gNil)))) (tt := tYes) (i := 2) rfl nd rfl rfl (sw_true rfl rfl rfl (by decide +kernel)) (pi_tup (pe_ix ix_seq (pv 0) pe_int (fun _ _ => rfl))) (L2.blkOk_by (N := N_law_more_branches) (sc := defScope s_law_more_branches) (by decide +kernel)) (fun _ _ _ _ _ => (pg_tup rfl (pgs_cons (pg_name (i := 4) nd rfl (Or.inl rfl)) (pgs_cons (pg_name (i := 5) nd rfl (Or.inl rfl)) pgs_nil)))) (fun _ _ _ _ _ => pts_nil) (fun _ _ _ _ _ => (pe_tup (pa_cons (pv 4) (pa_cons (Lw.pe_cl ih_law_more_branches b_law_more_branches hr (by omega) (by rfl) pass0 (pa_cons (pv 5) (pa_cons (pv 1) pa_nil))) pa_nil)))))
      (pss_cons (ps_set (i := 3) nd rfl (Or.inl rfl) (Lw.pe_cl ih_law_more_branches b_law_more_branches hr (by omega) (by rfl) pass0 (pa_cons (pe_ix ix_seq (pv 0) pe_int (fun _ _ => rfl)) (pa_cons (pv 1) pa_nil))))
      (pss_cons (ps_if (pt_cmpR op_notIn_seq (pv 1) (pe_lc (own := [("_law_tint", 4), ("_law_inner", 5)]) (g := gTup K 2 (gCons (gName 4) (gCons (gName 5) (gNil)))) (tt := tYes) rfl nd (pi_list (pv 2)) (L2.blkOk_by (N := N_law_more_branches) (sc := defScope s_law_more_branches) (by decide +kernel)) (fun _ _ _ _ _ => (pg_tup rfl (pgs_cons (pg_name (i := 4) nd rfl (Or.inl rfl)) (pgs_cons (pg_name (i := 5) nd rfl (Or.inl rfl)) pgs_nil)))) (fun _ _ _ _ _ => pts_nil) (fun _ _ _ _ _ => (pv 4))) (by rfl)) (pss_one (ps_set (i := 2) nd rfl (Or.inl rfl) (pe_callB ((cr_sortedPr (β := V × Int × Fo.Form Cell) hr.units)) (by rfl) T.b_sorted bt_sorted (pa_cons (pe_op op_cat (pv 2) (pe_lst (pa_cons (pe_tup (pa_cons (pv 1) (pa_cons (pv 3) pa_nil))) pa_nil))) pa_nil)))) pss_nil)
      (pss_one (ps_ret (pe_tup (pa_cons pe_str (pa_cons (pe_ix ix_seq (pv 0) pe_int (fun _ _ => rfl)) (pa_cons (pe_callTy (Lw.cr_tupF) (by rfl) T.b_tuple bt_tuple (pa_cons (pv 2) pa_nil)) (pa_cons (pv 3) pa_nil))))))))))), ?_⟩
      rw [show L2.start N_law_more_branches [v, V.int c] = [some v, some (V.int c), none, none, none, none] from rfl]
      cases hf with
      | col h =>
        repeat fail "st"
        exact q _ _ (Ex.refl _) (.col h)
      | cel h k =>
        repeat fail "st"
        exact q _ _ (Ex.refl _) (.cel h k)
      | ask h k' t r' o' =>
        rename_i tf a r v k ws rows o
        have hdo : dpF o ≤ n ∧ dpF o ≤ 18 := by
          have h1 : 1 + max (dpR rows) (dpF o) ≤ n + 1 := hd
          have h2 : 1 + max (dpR rows) (dpF o) ≤ 18 := h18
          omega
        have hdr : dpR rows ≤ n ∧ dpR rows ≤ 18 := by
          have h1 : 1 + max (dpR rows) (dpF o) ≤ n + 1 := hd
          have h2 : 1 + max (dpR rows) (dpF o) ≤ 18 := h18
          omega
        have hsz : 1 + (szR rows + szF o) ≤ 20000 := hs
        obtain ⟨_, z, okR, okO⟩ := ok
        repeat fail "st"
        intro D hD
        have hlw : ws.length ≤ 20000 := by
          rw [rows_len r']
          have := list_len rows
          omega
        refine lcT (All (MadeAt (Fo.moreB c) rows.list)) (all_mono MadeAt.ext) hD t.sq (by omega) (fun i x hi H1 e1 Q1 Q2 q1 q2 => ?_) (fun H1 os e1 hl hD1 hp => ?_)
        · obtain ⟨p, u, c', g, rfl, hp, hg, hi'⟩ := rows_get r' hi
          have mg := List.mem_of_getElem? hi'
          have d1 : dpF g ≤ dpR rows := dpR_mem mg
          have z1 : szF g ≤ szR rows := szR_mem mg
          have hp1 := e1 _ _ hp
          have hg1 := hg.up e1
          have okg : ∀ {r : Fo.Rows Cell}, Fo.OkR N E' AA r → ∀ p ∈ r.list, Fo.Ok N E' AA p.2 := fun {r} => by
            induction r using Fo.Rows.rec (motive_1 := fun _ => True) with
            | nil => intro _ p m; cases m
            | cons c f t _ ih =>
              rintro ⟨_, b, d⟩ p m
              rcases List.mem_cons.mp m with rfl | m
              · exact b
              · exact ih d p m
            | _ => trivial
          have okg := okg okR _ mg
          repeat fail "st"
          refine ⟨u, g, c, N, E', AA, rfl, hg1, okg, by omega, by omega, by omega, fun v' H2 e2 hf2 => ?_⟩
          repeat fail "st"
          intro tp n_tp
          generalize hh : upd _ tp _ = H_tp
          have e_tp := newEx hh n_tp
          have h_tp := newAt hh
          clear hh
          exact q1 _ _ (e2.trans e_tp) ⟨_, rfl, tp, v', c', g, rfl, hi', h_tp, hf2.up e_tp⟩
        · obtain ⟨ys, ey, ly, hy⟩ := All.end hp
          rw [ey] at hD1
          rw [hl, rows_len r'] at ly
          have rm := made_rows ly hy
          rw [moreR_of] at rm
          have lys : ys.length ≤ 20000 := by
            rw [ly, ← rows_len r']
            exact hlw
          have o3 := o'.up e1
          have k3 := k'.up e1
          have h := e1 _ _ h
          have eA := e1
          clear hp hy hl ly ey e1
          try dsimp only [List.set]
          repeat fail "st"
          refine ⟨v, o, c, N, E', AA, rfl, o3, okO, hdo.1, hdo.2, by omega, fun v' H2 e2 hl2 => ?_⟩
          have hD1 := e2 _ _ hD1
          have rm := RowsAt.up e2 rm
          have k3 := k3.up e2
          have h := e2 _ _ h
          have eA := eA.trans e2
          clear e2 o3
          obtain ⟨bs, eys, ers, trip⟩ := rows_trip rm
          have asc2 : (Fo.cols (Fo.moreR c rows)).Pairwise (· < ·) := by rw [Fo.cols_more]; exact z.2
          have ecol : Fo.cols (Fo.moreR c rows) = bs.map (fun b => b.2.1) := by
            rw [cols_list, ers, List.map_map]
            rfl
          try dsimp only [List.set]
          repeat fail "st"
          intro D2 hD2
          refine lcL (K := K) (All fun i y _ => ∃ b : V × Int × Fo.Form Cell, bs[i]? = some b ∧ y = V.int b.2.1) (all_mono fun _ _ _ _ _ h => h) hD2 (SqL.of hD1) (by omega) (fun i x hi G eG Q1 Q2 q1 q2 => ?_) (fun H3 os3 e3 hl3 hD3 hp3 => ?_)
          · rw [eys, List.getElem?_map] at hi
            obtain ⟨b, hb, rfl⟩ := Option.map_eq_some_iff.mp hi
            obtain ⟨p, u, ep, hp, _⟩ := (trip b (List.mem_of_getElem? hb)).up eG
            rw [ep]
            repeat fail "st"
            exact q1 _ _ (Ex.refl _) ⟨_, rfl, b, hb, rfl⟩
          obtain ⟨zs, ez, lz, hz⟩ := All.end hp3
          rw [ez] at hD3
          have eb : zs = (Fo.cols (Fo.moreR c rows)).map V.int := by
            rw [ecol]
            have lb : zs.length = bs.length := by rw [lz, hl3, eys, List.length_map]
            refine List.ext_getElem? fun i => ?_
            rw [List.getElem?_map, List.getElem?_map]
            by_cases hi : i < zs.length
            · obtain ⟨o, ho, e⟩ := hz i _ (List.getElem?_eq_getElem hi)
              rw [List.getElem?_eq_getElem hi, e, ho]
              rfl
            · rw [List.getElem?_eq_none (by omega), List.getElem?_eq_none (by omega)]
              rfl
          rw [eb] at hD3
          have hD1 := e3 _ _ hD1
          have hl2 := hl2.up e3
          have trip := fun b m => (trip b m).up e3
          have k3 := k3.up e3
          have h := e3 _ _ h
          have eA := eA.trans e3
          clear hp3 hz eb ez lz hl3 e3 rm
          repeat fail "st"
          refine ⟨D2, _, rfl, .inl (SqL.of hD3), rfl, flat_ints _, ?_⟩
          refine ⟨!inV (V.int c) ((Fo.cols (Fo.moreR c rows)).map V.int), rfl, ?_⟩
          rw [in_ints]
          refine ifNt (fun hc => ?_) (fun hc => ?_)
          · have hc := of_decide_eq_false hc
            rw [Fo.cols_more] at hc
            clear hD3
            repeat fail "st"
            intro t1 n_t1
            generalize hh : upd _ t1 _ = H_t1
            have e_t1 := newEx hh n_t1
            have h_t1 := newAt hh
            clear hh
            repeat fail "st"
            intro t2 n_t2
            generalize hh : upd _ t2 _ = H_t2
            have e_t2 := newEx hh n_t2
            have h_t2 := newAt hh
            clear hh
            have hD1 := (e_t1.trans e_t2) _ _ hD1
            refine ⟨D, t2, _, _, rfl, rfl, hD1, h_t2, (by show ys.length + 1 ≤ _; have := Lw.line_ge; omega), ?_⟩
            intro t3 n_t3
            generalize hh : upd _ t3 _ = H_t3
            have e_t3 := newEx hh n_t3
            have h_t3 := newAt hh
            clear hh
            have eB := e_t1.trans (e_t2.trans e_t3)
            have trip := fun b m => (trip b m).up eB
            have hl2 := hl2.up eB
            have k3 := k3.up eB
            have h := eB _ _ h
            have eA := eA.trans eB
            have ttr : TripAt H_t3 (.ref t1, c, Fo.moreB c o) := ⟨t1, v', rfl, (e_t2.trans e_t3) _ _ h_t1, hl2⟩
            have h_t3 : H_t3 t3 = some (.lst ((bs ++ [(V.ref t1, c, Fo.moreB c o)]).map (·.1))) := by
              rw [h_t3, eys, List.map_append]
              rfl
            have tall : ∀ b ∈ bs ++ [(V.ref t1, c, Fo.moreB c o)], TripAt H_t3 b := fun b m => (List.mem_append.mp m).elim (trip b) fun m => by rw [List.mem_singleton.mp m]; exact ttr
            have dall : ∀ b ∈ bs ++ [(V.ref t1, c, Fo.moreB c o)], dpF b.2.2 ≤ 18 := fun b m => (List.mem_append.mp m).elim (fun m => by
              have m2 : b.2 ∈ (Fo.moreR c rows).list := by
                rw [ers]
                exact List.mem_map.mpr ⟨b, m, rfl⟩
              have h1 := dpR_mem m2
              have h2 := dp_moreR c rows
              omega) fun m => by
              rw [List.mem_singleton.mp m]
              have h2 := dp_more c o
              show dpF (Fo.moreB c o) ≤ 18
              omega
            have cnod : (bs ++ [(V.ref t1, c, Fo.moreB c o)]).Pairwise (fun a b => a.2.1 ≠ b.2.1) := by
              rw [List.pairwise_append]
              refine ⟨?_, by simp, fun a ma b mb => ?_⟩
              · have := asc2
                rw [ecol, List.pairwise_map] at this
                exact this.imp fun x => Int.ne_of_lt x
              · rw [List.mem_singleton.mp mb]
                intro z
                refine hc ?_
                rw [← Fo.cols_more c rows, ecol]
                exact List.mem_map.mpr ⟨a, ma, z⟩
            clear hD1 e_t1 e_t2 e_t3 eB h_t1 h_t2 n_t1 n_t2 n_t3 trip ttr
            repeat fail "st"
            refine ⟨t3, bs ++ [(V.ref t1, c, Fo.moreB c o)], (·.1), encB, rfl, SqL.of h_t3, (fun b m => ?_), ⟨fun d m => ?_, fun c e e' m m' => ?_, fun d m => ?_⟩, fun cs p perm pw np => ?_⟩
            · obtain ⟨p, u, e1, hp, hf⟩ := tall b m
              refine ⟨?_, ?_⟩
              · show Dp _ _ b.1 _
                rw [e1]
                exact .tup (SqT.of hp) (.cons (.int _) (.cons (dp_form hf) .nil))
              · have h1 := dep_form b.2.2
                have h2 := dall b m
                show max 0 (max (PyData.depth (datF b.2.2)) 0) + 1 ≤ 60
                omega
            · obtain ⟨b, _, rfl⟩ := List.mem_map.mp m
              exact ⟨_, _, rfl⟩
            · obtain ⟨b, mb, eb⟩ := List.mem_map.mp m
              obtain ⟨b', mb', eb'⟩ := List.mem_map.mp m'
              have q1 := PyData.tuple.inj eb
              have q2 := PyData.tuple.inj eb'
              simp only [List.cons.injEq, PyData.int.injEq, and_true] at q1 q2
              have bb : b = b' := by
                obtain ⟨i, hi, ei⟩ := List.getElem_of_mem mb
                obtain ⟨j, hj, ej⟩ := List.getElem_of_mem mb'
                rcases Nat.lt_trichotomy i j with l | l | l
                · have := List.pairwise_iff_getElem.mp cnod i j hi hj l
                  rw [ei, ej] at this
                  exact absurd (q1.1.trans q2.1.symm) this
                · subst l
                  rw [← ei, ← ej]
                · have := List.pairwise_iff_getElem.mp cnod j i hj hi l
                  rw [ei, ej] at this
                  exact absurd (q2.1.trans q1.1.symm) this
              rw [← q1.2, ← q2.2, bb]
            · obtain ⟨b, _, rfl⟩ := List.mem_map.mp m
              show (true && (PySem.W.alike (datF b.2.2) (datF b.2.2) && true)) = true
              rw [alike_form]
              rfl
            generalize hh : upd _ p _ = H_p
            have e_p := newEx hh np
            have h_p := newAt hh
            clear hh
            have cn2 : cs.Pairwise (fun a b => a.2.1 ≠ b.2.1) := (perm.symm.pairwise_iff (fun {a b} x => Ne.symm x)).mp cnod
            have clt : (cs.map (·.2)).Pairwise (fun a b => a.1 < b.1) := by
              rw [List.pairwise_map]
              refine (pw.and cn2).imp fun {a b} x => ?_
              have := x.1
              unfold Lw.dlt encB at this
              rw [pair_lt (Ne.symm x.2)] at this
              have := of_decide_eq_false this
              have := x.2
              omega
            have fin : cs.map (·.2) = (Fo.insR c (Fo.moreB c o) (Fo.moreR c rows)).list := by
              refine perm_asc ?_ clt ?_
              · refine (perm.map _).trans ?_
                rw [List.map_append, ← ers]
                exact (ins_perm c (Fo.moreB c o) (Fo.moreR c rows)).symm
              · have := Fo.asc_ins (g := Fo.moreB c o) (by rw [Fo.cols_more]; exact hc) asc2
                rw [cols_list, List.pairwise_map] at this
                exact this
            have rm : RowsAt H_p (cs.map (·.1)) (Fo.insR c (Fo.moreB c o) (Fo.moreR c rows)) := by
              rw [← rows_of_list (Fo.insR c (Fo.moreB c o) (Fo.moreR c rows)), ← fin]
              exact trip_rows fun b m => (tall b (perm.subset m)).up e_p
            have hl2 := hl2.up e_p
            have k3 := k3.up e_p
            have h := e_p _ _ h
            have eA := eA.trans e_p
            have ef : Fo.moreB c (.ask k rows o) = .ask k (Fo.insR c (Fo.moreB c o) (Fo.moreR c rows)) (Fo.moreB c o) := by
              show Fo.Form.ask k (if c ∈ Fo.cols rows then _ else _) _ = _
              rw [if_neg hc]
            generalize Fo.insR c (Fo.moreB c o) (Fo.moreR c rows) = rr at *
            generalize cs.map (·.1) = ww at *
            clear e_p tall dall cnod cn2 clt fin pw perm
            try dsimp only [List.set]
            repeat fail "st"
            intro rl ob n_r hob
            generalize hh : upd _ rl _ = H_r
            have e_r := newEx hh n_r
            have h_r := newAt hh
            clear hh
            repeat fail "st"
            intro fo n_fo
            generalize hh : upd _ fo _ = H_fo
            have e_fo := newEx hh n_fo
            have h_fo := newAt hh
            clear hh
            have e2 := e_r.trans e_fo
            refine q _ _ (eA.trans e2) ?_
            rw [ef]
            exact .ask h_fo (k3.up e2) ⟨ob, hob, e_fo _ _ h_r⟩ (RowsAt.up e2 rm) (hl2.up e2)
          · have hc := of_decide_eq_true hc
            rw [Fo.cols_more] at hc
            clear hD3
            have rm : RowsAt H3 ys (Fo.moreR c rows) := by
              rw [← rows_of_list (Fo.moreR c rows), ers, eys]
              exact trip_rows trip
            have ef : Fo.moreB c (.ask k rows o) = .ask k (Fo.moreR c rows) (Fo.moreB c o) := by
              show Fo.Form.ask k (if c ∈ Fo.cols rows then _ else _) _ = _
              rw [if_pos hc]
            generalize Fo.moreR c rows = rr at *
            repeat fail "st"
            intro rl ob n_r hob
            generalize hh : upd _ rl _ = H_r
            have e_r := newEx hh n_r
            have h_r := newAt hh
            clear hh
            repeat fail "st"
            intro fo n_fo
            generalize hh : upd _ fo _ = H_fo
            have e_fo := newEx hh n_fo
            have h_fo := newAt hh
            clear hh
            have e2 := e_r.trans e_fo
            refine q _ _ (eA.trans e2) ?_
            rw [ef]
            exact .ask h_fo (k3.up e2) ⟨ob, hob, e_fo _ _ h_r⟩ (RowsAt.up e2 rm) (hl2.up e2)
end

end K45
namespace K45
open PySem PySem.Spec PyProof.Rows L2 Evl Lw
section
variable {P : Program} {w : World} {K : PySem.W.Frag} {mg : Str → Option Value} {base : Heap}
mutual
theorem sz_tm : ∀ f : Fo.Form Cell, szF f = Fo.tm 1 f
  | .col _ => rfl
  | .cel _ => rfl
  | .ask k r o => by
    have h1 := sz_tmR r
    have h2 := sz_tm o
    show 1 + (szR r + szF o) = 1 + (Fo.tmR 1 r + 1 * Fo.tm 1 o)
    omega
theorem sz_tmR : ∀ r : Fo.Rows Cell, szR r = Fo.tmR 1 r
  | .nil => rfl
  | .cons c f t => by
    have h1 := sz_tm f
    have h2 := sz_tmR t
    show 1 + (szF f + szR t) = 1 + (Fo.tm 1 f + Fo.tmR 1 t)
    omega
end
/-- how large with three rows each -/
def tb (l : Nat) : Nat → Nat
  | 0 => 1
  | d + 1 => l + 3 + (3 + l) * tb l d
theorem tmR_len {l m : Nat} : ∀ r : Fo.Rows Cell, (∀ p ∈ r.list, Fo.tm l p.2 ≤ m) → Fo.tmR l r ≤ r.list.length * (1 + m)
  | .nil, _ => Nat.zero_le _
  | .cons c f t, h => by
    have h1 := h (c, f) List.mem_cons_self
    have h2 := tmR_len t fun p m => h p (List.mem_cons_of_mem _ m)
    show 1 + (Fo.tm l f + Fo.tmR l t) ≤ (t.list.length + 1) * (1 + m)
    rw [Nat.succ_mul]
    have h3 : Fo.tm l f ≤ m := h1
    omega
theorem okR_mem {N : Int → Prop} {E A : Cell → Prop} : ∀ {r : Fo.Rows Cell}, Fo.OkR N E A r → ∀ p ∈ r.list, N p.1 ∧ Fo.Ok N E A p.2
  | .nil, _, p, m => by cases m
  | .cons c f t, ⟨a, b, d⟩, p, m => by
    rcases List.mem_cons.mp m with rfl | m
    · exact ⟨a, b⟩
    · exact okR_mem d p m
theorem tm_base {C : List Int} (hC : C.length ≤ 3) {E A : Cell → Prop} (l : Nat) : ∀ (d : Nat) (f : Fo.Form Cell), Fo.Ok (fun c => c ∈ C) E A f → dpF f ≤ d + 1 → Fo.tm l f ≤ tb l d
  | 0, f, ok, h => by
    cases f with
    | col c => exact Nat.le_refl _
    | cel k => exact Nat.le_refl _
    | ask k r o =>
      have h2 : 1 + max (dpR r) (dpF o) ≤ 1 := h
      have := dpF_pos o
      omega
  | d + 1, f, ok, h => by
    have pos : 1 ≤ tb l (d + 1) := by
      show 1 ≤ l + 3 + _
      omega
    cases f with
    | col c => exact pos
    | cel k => exact pos
    | ask k r o =>
      obtain ⟨_, z, okr, oko⟩ := ok
      have h2 : 1 + max (dpR r) (dpF o) ≤ d + 1 + 1 := h
      have t1 := tm_base hC l d o oko (by omega)
      have t2 := tmR_len (l := l) (m := tb l d) r fun p mp => tm_base hC l d p.2 (okR_mem okr p mp).2 (by have := dpR_mem mp; omega)
      have len : r.list.length ≤ 3 := by
        have := nodup_len (ps := Fo.cols r) (qs := C) (z.2.imp fun x => Int.ne_of_lt x) fun c mc => by
          rw [cols_list] at mc
          obtain ⟨p, mp, rfl⟩ := List.mem_map.mp mc
          exact (okR_mem okr p mp).1
        rw [cols_list, List.length_map] at this
        omega
      have t3 : r.list.length * (1 + tb l d) ≤ 3 * (1 + tb l d) := Nat.mul_le_mul_right _ len
      have t4 : l * Fo.tm l o ≤ l * tb l d := Nat.mul_le_mul_left _ t1
      show l + (Fo.tmR l r + l * Fo.tm l o) ≤ l + 3 + (3 + l) * tb l d
      rw [Nat.add_mul]
      omega
/-- a form written otherwise -/
structure Other (N : Int → Prop) (S : List Cell) (f g : Fo.Form Cell) : Prop where
  ev : ∀ ρ : Cell → Int, Fo.eval ρ g = Fo.eval ρ f
  ok : ∃ d : Int, (0 ≤ d ∧ d ≤ 8) ∧ Fo.Ok (fun c => c = d ∨ N c) (fun k => k ∈ S) (fun k => k ∈ S) g
  dp : dpF g ≤ dpF f + 2
  t : ∀ l : Nat, Fo.tm l g ≤ max (Fo.tm (l + 1) f) (l + 3 + (3 * l + 3) * Fo.tm l f)
theorem tm_pos (l : Nat) : ∀ f : Fo.Form Cell, l = 0 ∨ 1 ≤ Fo.tm l f
  | .col _ => .inr (Nat.le_refl _)
  | .cel _ => .inr (Nat.le_refl _)
  | .ask k r o => by
    show l = 0 ∨ 1 ≤ l + _
    omega
def allR (f : Fo.Form Cell) : List Int → Fo.Rows Cell
  | [] => .nil
  | c :: C => .cons c f (allR f C)
theorem allR_cols (f : Fo.Form Cell) : ∀ C : List Int, Fo.cols (allR f C) = C
  | [] => rfl
  | c :: C => by show c :: Fo.cols (allR f C) = _; rw [allR_cols f C]
theorem allR_eval (f : Fo.Form Cell) (ρ : Cell → Int) (v : Int) : ∀ C : List Int, (Fo.evalR ρ v (allR f C)).getD (Fo.eval ρ f) = Fo.eval ρ f
  | [] => rfl
  | c :: C => by
    show ((if v = c then some (Fo.eval ρ f) else Fo.evalR ρ v (allR f C)).getD (Fo.eval ρ f)) = _
    split
    · rfl
    · exact allR_eval f ρ v C
theorem allR_ok {N : Int → Prop} {E A : Cell → Prop} {f : Fo.Form Cell} (h : Fo.Ok N E A f) : ∀ C : List Int, (∀ c ∈ C, N c) → Fo.OkR N E A (allR f C)
  | [], _ => trivial
  | c :: C, hc => ⟨hc c List.mem_cons_self, h, allR_ok h C fun x m => hc x (List.mem_cons_of_mem _ m)⟩
theorem allR_dp (f : Fo.Form Cell) : ∀ C : List Int, dpR (allR f C) ≤ dpF f
  | [] => Nat.zero_le _
  | c :: C => by
    have := allR_dp f C
    show max (dpF f) (dpR (allR f C)) ≤ dpF f
    omega
theorem allR_tm (l : Nat) (f : Fo.Form Cell) : ∀ C : List Int, Fo.tmR l (allR f C) = C.length * (1 + Fo.tm l f)
  | [] => (Nat.zero_mul _).symm
  | c :: C => by
    have := allR_tm l f C
    show 1 + (Fo.tm l f + Fo.tmR l (allR f C)) = (C.length + 1) * (1 + Fo.tm l f)
    rw [Nat.succ_mul]
    omega
theorem allR_rows {H : Hp} {v : V} {f : Fo.Form Cell} (hf : FormAt H v f) : ∀ {ys : List V} {C : List Int}, ys.length = C.length → (∀ (i : Nat) (y : V), ys[i]? = some y → ∃ p c, y = V.ref p ∧ C[i]? = some c ∧ H p = some (.tup [.int c, v])) → RowsAt H ys (allR f C)
  | [], [], _, _ => .nil
  | [], _ :: _, h, _ => nomatch h
  | _ :: _, [], h, _ => nomatch h
  | y :: ys, c :: C, l, h => by
    obtain ⟨p, c', rfl, e, hp⟩ := h 0 y rfl
    obtain rfl : c = c' := Option.some.inj e
    exact .cons hp hf (allR_rows hf (Nat.succ.inj l) fun i y q => h (i + 1) y q)
theorem other_all {N : Int → Prop} {S : List Cell} {f : Fo.Form Cell} {C : List Int} {s : Cell} (hf : Fo.Ok N (fun k => k ∈ S) (fun k => k ∈ S) f) (hC : ∀ c ∈ C, N c) (ne : C ≠ []) (lC : C.length ≤ 3) (pw : C.Pairwise (· < ·)) (hs : s ∈ S) : Other N S f (.ask s (allR f C) f) := by
  refine ⟨fun ρ => allR_eval f ρ (ρ s) C, ⟨0, ⟨by decide, by decide⟩, Fo.ok3 (fun c h => .inr h) (fun _ h => h) (fun _ h => h) _ ⟨hs, ⟨by rw [allR_cols]; exact ne, by rw [allR_cols]; exact pw⟩, allR_ok hf C hC, hf⟩⟩, ?_, fun l => ?_⟩
  · have := allR_dp f C
    show 1 + max (dpR (allR f C)) (dpF f) ≤ _
    omega
  · have h1 := allR_tm l f C
    have h2 : C.length * (1 + Fo.tm l f) ≤ 3 * (1 + Fo.tm l f) := Nat.mul_le_mul_right _ lC
    have h3 : (3 * l + 3) * Fo.tm l f = 3 * (l * Fo.tm l f) + 3 * Fo.tm l f := by rw [Nat.add_mul, Nat.mul_assoc]
    show l + (Fo.tmR l (allR f C) + l * Fo.tm l f) ≤ _
    omega
mutual
theorem dp_ends (s : Cell) (c : Int) : ∀ f : Fo.Form Cell, dpF (Fo.endsA s c f) ≤ dpF f + 1
  | .col _ => by show 1 ≤ 2; omega
  | .cel k => by
    show dpF (if k = s then .ask s (.cons c (.col c) .nil) (.cel k) else .cel k) ≤ 2
    split
    · show 1 + max (max 1 0) 1 ≤ 2
      omega
    · show 1 ≤ 2
      omega
  | .ask k r o => by
    have h2 := dp_ends s c o
    have h1 := dp_endsR s c r
    show 1 + max (dpR (Fo.endsR s c r)) (dpF (Fo.endsA s c o)) ≤ 1 + max (dpR r) (dpF o) + 1
    omega
theorem dp_endsR (s : Cell) (c : Int) : ∀ r : Fo.Rows Cell, dpR (Fo.endsR s c r) ≤ dpR r + 1
  | .nil => Nat.zero_le _
  | .cons d f t => by
    have h1 := dp_ends s c f
    have h2 := dp_endsR s c t
    show max (dpF (Fo.endsA s c f)) (dpR (Fo.endsR s c t)) ≤ max (dpF f) (dpR t) + 1
    omega
end
theorem other_ends {N : Int → Prop} {S : List Cell} {f : Fo.Form Cell} {c : Int} {s : Cell} (hf : Fo.Ok N (fun k => k ∈ S) (fun k => k ∈ S) f) (hc : N c) (hs : s ∈ S) : Other N S f (Fo.endsA s c f) := by
  refine ⟨fun ρ => Fo.eval_ends ρ s c f, ⟨0, ⟨by decide, by decide⟩, Fo.ok3 (fun c h => .inr h) (fun _ h => h) (fun _ h => h) _ (Fo.ok_ends hc hs f hf)⟩, by have := dp_ends s c f; omega, fun l => ?_⟩
  have h1 := Fo.tm_ends l s c f
  have h2 : (2 * l + 2) * Fo.tm l f ≤ (3 * l + 3) * Fo.tm l f := Nat.mul_le_mul_right _ (by omega)
  omega
theorem other_more {N : Int → Prop} {S : List Cell} {f : Fo.Form Cell} {c : Int} (hf : Fo.Ok N (fun k => k ∈ S) (fun k => k ∈ S) f) (hc : 0 ≤ c ∧ c ≤ 8) : Other N S f (Fo.moreB c f) := by
  refine ⟨fun ρ => Fo.eval_more ρ c f, ⟨c, hc, Fo.ok_more (.inl rfl) f (Fo.ok3 (fun c h => .inr h) (fun _ h => h) (fun _ h => h) _ hf)⟩, by have := dp_more c f; omega, fun l => ?_⟩
  have h1 := Fo.tm_more l c f
  omega
theorem other_one {N : Int → Prop} {S : List Cell} {f : Fo.Form Cell} {c : Int} {s : Cell} (hf : Fo.Ok N (fun k => k ∈ S) (fun k => k ∈ S) f) (hc : 0 ≤ c ∧ c ≤ 8) (hs : s ∈ S) : Other N S f (.ask s (.cons c (Fo.endsA s c f) .nil) f) := by
  have ok2 : Fo.Ok (fun x => x = c ∨ N x) (fun k => k ∈ S) (fun k => k ∈ S) f := Fo.ok3 (fun c h => .inr h) (fun _ h => h) (fun _ h => h) _ hf
  refine ⟨fun ρ => ?_, ⟨c, hc, hs, ⟨by simp [Fo.cols], by simp [Fo.cols]⟩, ⟨.inl rfl, Fo.ok_ends (.inl rfl) hs f ok2, trivial⟩, ok2⟩, ?_, fun l => ?_⟩
  · show ((if ρ s = c then some (Fo.eval ρ (Fo.endsA s c f)) else none).getD (Fo.eval ρ f)) = _
    rw [Fo.eval_ends]
    split <;> rfl
  · have := dp_ends s c f
    show 1 + max (max (dpF (Fo.endsA s c f)) 0) (dpF f) ≤ _
    omega
  · have h1 := Fo.tm_ends l s c f
    have h2 : (2 * l + 2) * Fo.tm l f = 2 * (l * Fo.tm l f) + 2 * Fo.tm l f := by rw [Nat.add_mul, Nat.mul_assoc]
    have h3 : (3 * l + 3) * Fo.tm l f = 3 * (l * Fo.tm l f) + 3 * Fo.tm l f := by rw [Nat.add_mul, Nat.mul_assoc]
    show l + (1 + (Fo.tm l (Fo.endsA s c f) + 0) + l * Fo.tm l f) ≤ _
    omega
def spOther : Sp := fun vs H Q _ => ∃ (p sa ca : Addr) (v : V) (f : Fo.Form Cell) (N : Int → Prop) (as : List Addr) (S : List Cell) (C : List Int), vs = [.ref p, v, .ref sa, .ref ca] ∧ Pool H p ∧ FormAt H v f ∧ Fo.Ok N (fun k => k ∈ S) (fun k => k ∈ S) f ∧ (∀ c ∈ C, N c) ∧ dpF f ≤ 12 ∧ szF f ≤ 20000 ∧
  H sa = some (.lst (as.map V.ref)) ∧ Cells H as S ∧ S ≠ [] ∧ S.length ≤ 3 ∧ H ca = some (.lst (C.map V.int)) ∧ C ≠ [] ∧ C.length ≤ 3 ∧ C.Pairwise (· < ·) ∧ ∀ v' g H', Ex H H' → FormAt H' v' g → Other N S f g → Q v' H'
theorem c_law_otherwise (T : Txt K mg) : Cl P w K mg base CX0 20 "_law_otherwise" s_law_otherwise ["_law_pool_here", "_law_shape", "_law_spots", "_law_colours"] spOther := by
  refine cl_of (k := 19) T.d_law_otherwise sc_law_otherwise (fun vs H Q E h => ?_) (fun f cdv A outer s H vs Q E hr h => ?_)
  · obtain ⟨p, sa, ca, v, f, N, as, S, C, rfl, _⟩ := h
    rfl
  · obtain ⟨p, sa, ca, v, fo, N, as, S, C, rfl, hp, hf, ok, hN, hd, hz, hS, cS, neS, lS, hC, neC, lC, pC, q⟩ := h
    have nd := sc_law_otherwise.nd
    refine ⟨_, (pss_cons (ps_par3 (i := 4) (j := 5) (l := 6) rfl nd rfl rfl rfl (by decide) (by decide) (by decide) rfl rfl rfl (pa_cons (Lw.pe_cl (c_law_draw T) b_law_draw hr (by decide) (by rfl) pass0 (pa_cons (pv 0) (pa_cons pe_int pa_nil))) (pa_cons (pe_ix ix_seq (pv 2) (Lw.pe_cl (c_law_draw T) b_law_draw hr (by decide) (by rfl) pass0 (pa_cons (pv 0) (pa_cons (pe_callB (call_len) (by rfl) T.b_len bt_len (pa_cons (pv 2) pa_nil)) pa_nil))) (fun _ _ => rfl)) (pa_cons (Lw.pe_cl (c_law_draw T) b_law_draw hr (by decide) (by rfl) pass0 (pa_cons (pv 0) (pa_cons pe_int pa_nil))) pa_nil))) (by rfl))
      (pss_cons (ps_if (pt_cmpR op_eq (pv 4) pe_int (nomark _)) (pss_one (ps_ret (pe_tup (pa_cons pe_str (pa_cons (pv 5) (pa_cons (pe_callTy (Lw.cr_tupF) (by rfl) T.b_tuple bt_tuple (pa_cons (pe_lc (own := [("_law_tint", 7)]) (g := gName 7) (tt := tYes) rfl nd (pi_list (pv 3)) (L2.blkOk_by (N := N_law_otherwise) (sc := defScope s_law_otherwise) (by decide +kernel)) (fun _ _ _ _ _ => (pg_name (i := 7) nd rfl (Or.inl rfl))) (fun _ _ _ _ _ => pts_nil) (fun _ _ _ _ _ => (pe_tup (pa_cons (pv 7) (pa_cons (pv 1) pa_nil))))) pa_nil)) (pa_cons (pv 1) pa_nil))))))) pss_nil)
      (pss_cons (ps_if (pt_cmpR op_eq (pv 4) pe_int (nomark _)) (pss_one (ps_ret (Lw.pe_cl (c_law_ends_asked T 18) b_law_ends_asked hr (by decide) (by rfl) pass0 (pa_cons (pv 1) (pa_cons (pv 5) (pa_cons (pe_ix ix_seq (pv 3) (Lw.pe_cl (c_law_draw T) b_law_draw hr (by decide) (by rfl) pass0 (pa_cons (pv 0) (pa_cons (pe_callB (call_len) (by rfl) T.b_len bt_len (pa_cons (pv 3) pa_nil)) pa_nil))) (fun _ _ => rfl)) pa_nil)))))) pss_nil)
      (pss_cons (ps_if (pt_cmpR op_eq (pv 4) pe_int (nomark _)) (pss_one (ps_ret (Lw.pe_cl (c_law_more_branches T 18) b_law_more_branches hr (by decide) (by rfl) pass0 (pa_cons (pv 1) (pa_cons (pv 6) pa_nil))))) pss_nil)
      (pss_one (ps_ret (pe_tup (pa_cons pe_str (pa_cons (pv 5) (pa_cons (Lw.pe_tupF (pa_cons (pe_tup (pa_cons (pv 6) (pa_cons (Lw.pe_cl (c_law_ends_asked T 18) b_law_ends_asked hr (by decide) (by rfl) pass0 (pa_cons (pv 1) (pa_cons (pv 5) (pa_cons (pv 6) pa_nil)))) pa_nil))) pa_nil)) (pa_cons (pv 1) pa_nil))))))))))), ?_⟩
    rw [show L2.start N_law_otherwise [V.ref p, v, V.ref sa, V.ref ca] = [some (V.ref p), some v, some (V.ref sa), some (V.ref ca), none, none, none, none] from rfl]
    have las : as.length = S.length := Paired.length cS
    have S0 : 0 < S.length := List.length_pos_iff.mpr neS
    have C0 : 0 < C.length := List.length_pos_iff.mpr neC
    have lcm : (C.map V.int).length = C.length := List.length_map _
    have lsm : (as.map V.ref).length = S.length := by rw [List.length_map, las]
    repeat fail "st"
    intro w1 H1 e1 w10 w11
    have hp := hp.up e1
    have hS := e1 _ _ hS
    repeat fail "st"
    intro d2 H2 e2 d20 d21
    rw [lsm] at d21
    obtain ⟨j, rfl⟩ := Int.eq_ofNat_of_zero_le d20
    have hj : j < as.length := by omega
    have gj := List.getElem?_eq_getElem hj
    obtain ⟨k, gk, ck⟩ := paired_at (Cells.up (e1.trans e2) cS) gj
    have mk : k ∈ S := List.mem_of_getElem? gk
    have hS := e2 _ _ hS
    have hp := hp.up e2
    repeat fail "st"
    show rIx K _ _ _ _
    refine ixL_at (K := K) (j := j) (xs := as.map V.ref) (SqL.of hS) rfl (by rw [List.getElem?_map, gj]; rfl) ?_
    generalize as[j] = ak at *
    repeat fail "st"
    intro d3 H3 e3 d30 d31
    have eA := e1.trans (e2.trans e3)
    have hp := hp.up e3
    have hC := eA _ _ hC
    have hf := hf.up eA
    have ck := ck.up e3
    clear e1 e2 e3 hS cS
    refine ⟨_, _, _, rfl, ?_⟩
    try dsimp only [List.set]
    repeat fail "st"
    refine ifD (fun h0 => ?_) (fun h0 => ?_)
    · repeat fail "st"
      intro D hD
      refine lcL (K := K) (All fun i y H' => ∃ p c, y = V.ref p ∧ C[i]? = some c ∧ H' p = some (.tup [.int c, v])) (all_mono fun i y G G' e ⟨p, c, a, b, h⟩ => ⟨p, c, a, b, e p _ (fun xs z => by cases z) h⟩) hD (SqL.of hC) (by omega) (fun i x hi G eG Q1 Q2 q1 q2 => ?_) (fun H5 os5 e5 hl5 hD5 hp5 => ?_)
      · rw [List.getElem?_map] at hi
        obtain ⟨c, hc, rfl⟩ := Option.map_eq_some_iff.mp hi
        refine ⟨rfl, ?_⟩
        repeat fail "st"
        intro tp n_tp
        generalize hh : upd _ tp _ = H_tp
        have e_tp := newEx hh n_tp
        have h_tp := newAt hh
        clear hh
        exact q1 _ _ e_tp ⟨_, rfl, tp, c, rfl, hc, h_tp⟩
      obtain ⟨ys, ey, ly, hy⟩ := All.end hp5
      rw [ey] at hD5
      have ra := allR_rows (C := C) (hf.up e5) (by omega) hy
      have ck := ck.up e5
      have hf := hf.up e5
      have eA := eA.trans e5
      clear hp5 hl5 ey ly hy e5
      repeat fail "st"
      intro rl ob n_r hob
      generalize hh : upd _ rl _ = H_r
      have e_r := newEx hh n_r
      have h_r := newAt hh
      clear hh
      repeat fail "st"
      intro t n_t
      generalize hh : upd _ t _ = H_t
      have e_t := newEx hh n_t
      have h_t := newAt hh
      clear hh
      have e2 := e_r.trans e_t
      exact q (.ref t) _ _ (eA.trans e2) (.ask h_t (ck.up e2) ⟨ob, hob, e_t _ _ h_r⟩ (RowsAt.up e2 ra) (hf.up e2)) (other_all ok hN neC lC pC mk)
    repeat fail "st"
    refine ifD (fun h1 => ?_) (fun h1 => ?_)
    · repeat fail "st"
      intro d4 H4 e4 d40 d41
      rw [lcm] at d41
      obtain ⟨i, rfl⟩ := Int.eq_ofNat_of_zero_le d40
      have hi : i < C.length := by omega
      have gi := List.getElem?_eq_getElem hi
      have hC := e4 _ _ hC
      have hf := hf.up e4
      have ck := ck.up e4
      repeat fail "st"
      show rIx K _ _ _ _
      refine ixL_at (K := K) (j := i) (xs := C.map V.int) (SqL.of hC) rfl (by rw [List.getElem?_map, gi]; rfl) ?_
      repeat fail "st"
      refine ⟨v, fo, ak, k, C[i], rfl, hf, ck, by omega, by omega, by omega, fun v' H5 e5 h5 => ?_⟩
      exact q v' _ H5 (eA.trans (e4.trans e5)) h5 (other_ends ok (hN _ (List.getElem_mem hi)) mk)
    repeat fail "st"
    refine ifD (fun h2 => ?_) (fun h2 => ?_)
    · repeat fail "st"
      refine ⟨v, fo, d3, N, _, _, rfl, hf, ok, by omega, by omega, by omega, fun v' H5 e5 h5 => ?_⟩
      exact q v' _ H5 (eA.trans e5) h5 (other_more ok (by omega))
    repeat fail "st"
    refine ⟨v, fo, ak, k, d3, rfl, hf, ck, by omega, by omega, by omega, fun v' H5 e5 h5 => ?_⟩
    have hf := hf.up e5
    have ck := ck.up e5
    have eA := eA.trans e5
    clear e5
    repeat fail "st"
    intro t1 n_t1
    generalize hh : upd _ t1 _ = H_t1
    have e_t1 := newEx hh n_t1
    have h_t1 := newAt hh
    clear hh
    repeat fail "st"
    intro rl ob n_r hob
    generalize hh : upd _ rl _ = H_r
    have e_r := newEx hh n_r
    have h_r := newAt hh
    clear hh
    repeat fail "st"
    intro t n_t
    generalize hh : upd _ t _ = H_t
    have e_t := newEx hh n_t
    have h_t := newAt hh
    clear hh
    have e2 := e_r.trans e_t
    have e3 := e_t1.trans e2
    exact q (.ref t) _ _ (eA.trans e3) (.ask h_t (ck.up e3) ⟨ob, hob, e_t _ _ h_r⟩ (.cons (e2 _ _ h_t1) (h5.up e3) .nil) (hf.up e3)) (other_one ok (by omega) mk)
end

end K45
namespace K45
open PySem PySem.Spec PyProof.Rows L2 Evl Lw
section
variable {X : Cx}
/-- a pair of a cell and a value -/
def PairC (H : Hp) (q : Addr) (p : Cell × V) : Prop := ∃ b, H q = some (.tup [.ref b, p.2]) ∧ CellAt H b p.1
def kvC (ps : List (Cell × V)) : List (List Key × V) := ps.map fun p => (keyC p.1, p.2)
theorem kvc_of {pins : List (Addr × Obj)} {σ : L2.St} {H : Hp} {s : Shared} (I : Inv X pins σ H s) : ∀ {qs : List Addr} {ps : List (Cell × V)}, Paired (PairC H) qs ps →
    ∃ (vps : List (Value × Value)) (xs : List (List Key × Addr × Value)), Paired (fun (q : Addr) (kv : Value × Value) => IsTup s.heap q #[kv.1, kv.2]) qs vps ∧
      Paired (fun (p : List Key × V) (x : List Key × Addr × Value) => p.1 = x.1 ∧ H x.2.1 = some (.tup (p.1.map kV)) ∧ RelV p.2 x.2.2) (kvC ps) xs ∧
      Paired (fun (x : List Key × Addr × Value) (kv : Value × Value) => kv.1 = .ref x.2.1 ∧ x.2.2 = kv.2) xs vps
  | _, _, .nil => ⟨[], [], .nil, .nil, .nil⟩
  | _, _, .cons (a := q) (b := p) h t => by
    obtain ⟨vps, xs, a, b, c⟩ := kvc_of I t
    obtain ⟨bb, hq, hb⟩ := h
    obtain ⟨its, rv, ht, _⟩ := I.tuple (SqT.of hq)
    obtain ⟨u, y, rfl, ru, ry⟩ := vals2 rv
    cases ru
    exact ⟨(.ref bb, y) :: vps, (keyC p.1, bb, y) :: xs, .cons ht a, .cons ⟨rfl, hb.1, ry⟩ b, .cons ⟨rfl, rfl⟩ c⟩
/-- dict(l), l a list of pairs of unlike cells and values -/
theorem cr_dictC (hc : X.calm = true) (hu : X.A.units + 64 < cLine) : CallR X (.type "dict") (fun as H Q => ∃ (a : Addr) (qs : List Addr) (ps : List (Cell × V)), as = [.ref a] ∧ SqL X.K H a (qs.map V.ref) ∧ Paired (PairC H) qs ps ∧ (ps.map (·.1)).Nodup ∧ ∀ l, H l = none → Q (.ref l) (upd H l (.dT (kvC ps)))) := by
  intro pins s σ H as us Q I r hq
  obtain ⟨a, qs, ps, rfl, hl, hr, nod, q⟩ := hq
  obtain rfl := Vals.ref1 r
  obtain ⟨its, rv, pl, hz⟩ := I.list hl
  obtain rfl := refs_at rv
  rw [List.length_map] at hz
  obtain ⟨vps, xs, h1, h2, h3⟩ := kvc_of I hr
  have l1 : qs.length = vps.length := Paired.length h1
  have l3 : xs.length = vps.length := Paired.length h3
  have l2 : (kvC ps).length = xs.length := Paired.length h2
  have key : ∀ j k v, vps[j]? = some (k, v) → ∃ b, qs[j]? = some b ∧ IsTup s.heap b #[k, v] := fun j k v e => by
    obtain ⟨b, hb, ht⟩ := L2.DX.pget h1 e
    exact ⟨b, hb, ht⟩
  have ek : xs.map (·.1) = (ps.map (·.1)).map keyC := by
    have : ∀ {ks : List (List Key × V)} {xs : List (List Key × Addr × Value)}, Paired (fun (p : List Key × V) (x : List Key × Addr × Value) => p.1 = x.1 ∧ H x.2.1 = some (.tup (p.1.map kV)) ∧ RelV p.2 x.2.2) ks xs → xs.map (·.1) = ks.map (·.1) := fun {ks xs} p => by
      induction p with
      | nil => rfl
      | cons h _ ih => rw [List.map_cons, List.map_cons, ih, h.1]
    rw [this h2]
    unfold kvC
    rw [List.map_map, List.map_map]
    rfl
  have nk : (xs.map (·.1)).Nodup := by
    rw [ek]
    refine List.pairwise_map.mpr (nod.imp fun {a b} n z => n (keyC_inj z))
  obtain ⟨o, n, ho, hcl, hd, hdat⟩ := pl
  have isK : ∀ (h' : Heap), (∀ b o, b ≠ s.heap.objs.size → s.heap.get? b = some o → h'.get? b = some o) → ∀ x ∈ xs, (tupleKind (mixKind X.prog X.w)).is h' x.1 x.2.1 := fun h' k => by
    have : ∀ {ks : List (List Key × V)} {xs : List (List Key × Addr × Value)}, Paired (fun (p : List Key × V) (x : List Key × Addr × Value) => p.1 = x.1 ∧ H x.2.1 = some (.tup (p.1.map kV)) ∧ RelV p.2 x.2.2) ks xs → ∀ x ∈ xs, (tupleKind (mixKind X.prog X.w)).is h' x.1 x.2.1 := fun {ks xs} p => by
      induction p with
      | nil => intro x m; cases m
      | cons h _ ih =>
        intro x m
        rcases List.mem_cons.mp m with rfl | m
        · have hb := h.2.1
          rw [h.1] at hb
          have k1 := key_of I.hok hb
          obtain ⟨o, it, n, e1, e2, e3, e4⟩ := k1
          exact ⟨o, it, n, k _ _ (Nat.ne_of_lt (Heap.lt_size e1)) e1, e2, e3, e4⟩
        · exact ih x m
    exact this h2
  refine PySem.call_dict_pairsH (knd := tupleKind (mixKind X.prog X.w)) (ps := xs) (PairArg.list a (qs.map Value.ref).toArray (fun j => qs.getD j 0) vps) (I.ok.hd hc) (by show X.A.in1.in1.units < cLine; have : X.A.in1.in1.units = X.A.units + 2 := rfl; omega) ⟨⟨o, n, ho, hcl, hd, hdat⟩, ?_, fun j k v e => ?_⟩ ⟨l3, fun i k v e => ?_⟩ (fun h' k x m => isK h' (fun b o n e => k b o n (by simp) e) x m) (by omega) fun h' tk dd hk => ?_
  · rw [List.size_toArray, List.length_map]; exact l1
  · obtain ⟨b, hb, ht⟩ := key j k v e
    have eb : qs.getD j 0 = b := by rw [List.getD_eq_getElem?_getD, hb]; rfl
    refine ⟨?_, .inl ?_⟩
    · show (qs.map Value.ref).toArray[j]? = some (.ref (qs.getD j 0))
      rw [eb, List.getElem?_toArray, List.getElem?_map, hb]; rfl
    · show s.heap.IsTuple (qs.getD j 0) #[k, v]
      rw [eb]; exact ht
  · obtain ⟨⟨kk, b, v'⟩, hp, hk, hv⟩ := L2.DX.pget h3 e
    exact ⟨kk, b, by rw [hp, show v' = v from hv], hk⟩
  · have hm : (s.heap.objs.size == sysModules) = false := beq_eq_false_iff_ne.mpr (Nat.ne_of_gt I.big)
    have hfr := storedAllH_append_of_fresh [] xs (by simpa using nk)
    rw [hfr, List.nil_append] at dd
    obtain ⟨o2, es, ep, d1, d2, d3, d4, d5, d6⟩ := dd
    have kp : ∀ b u, s.heap.get? b = some u → h'.get? b = some u := fun b u e => hk b u (fun z => nomatch z) e
    have fr : H s.heap.objs.size = none := I.hok.fresh (Nat.le_refl _)
    have h2' : Paired (fun (p : List Key × V) (x : List Key × Addr × Value) => p.1 = x.1 ∧ upd H s.heap.objs.size (.dT (kvC ps)) x.2.1 = some (.tup (p.1.map kV)) ∧ RelV p.2 x.2.2) (kvC ps) xs := Paired.mapP h2 fun p x z => ⟨z.1, by rw [upd_ne (ne_of_none z.2.1 fr)]; exact z.2.1, z.2.2⟩
    exact ⟨.ref _, _, I.laid (t' := tk) kp (Nat.le_refl _) (o := .dT (kvC ps)) (show ObjOk X.prog X.w _ _ _ (.dT (kvC ps)) from ⟨by omega, hm, xs, h2', o2, es, ep, d1, d2, d3, d4, d6⟩), rfl, q _ fr⟩
theorem valC {ρ : Cell → Int} : ∀ {S : List Cell}, ∀ k ∈ S, valV (kvC (S.map fun k => (k, V.int (ρ k)))) (keyC k) = some (.int (ρ k))
  | [], k, m => by cases m
  | s :: S, k, m => by
    unfold valV
    show Option.map _ (List.find? _ ((keyC s, V.int (ρ s)) :: kvC (S.map fun k => (k, V.int (ρ k))))) = _
    rw [List.find?_cons]
    by_cases e : keyC s = keyC k
    · rw [show (decide (((keyC s, V.int (ρ s)) : List Key × V).1 = keyC k)) = true from decide_eq_true e]
      rw [keyC_inj e]
      rfl
    · rw [show (decide (((keyC s, V.int (ρ s)) : List Key × V).1 = keyC k)) = false from decide_eq_false e]
      have m2 : k ∈ S := (List.mem_cons.mp m).elim (fun z => absurd (by rw [z]) e) id
      have ih := valC (ρ := ρ) (S := S) k m2
      unfold valV at ih
      exact ih
end

end K45
namespace K45
open PySem PySem.Spec PyProof.Rows L2 Evl Lw
section
variable {P : Program} {w : World} {K : PySem.W.Frag} {mg : Str → Option Value} {base : Heap}
/-- a drawn pair of a cell and a colour -/
def DrawC (S : List Cell) (D : List Int) (i : Nat) (y : V) (H : Hp) : Prop := ∃ q k c, y = V.ref q ∧ S[i]? = some k ∧ PairC H q (k, .int c) ∧ c ∈ D
theorem DrawC.ext {S : List Cell} {D : List Int} (i : Nat) (y : V) (H H' : Hp) (e : ExT H H') (h : DrawC S D i y H) : DrawC S D i y H' := by
  obtain ⟨q, k, c, e1, e2, ⟨b, h1, h2⟩, e3⟩ := h
  exact ⟨q, k, c, e1, e2, ⟨b, e q _ (fun xs z => by cases z) h1, e b _ (fun xs z => by cases z) h2.1, h2.2⟩, e3⟩
theorem drawC_all {D : List Int} {H : Hp} : ∀ {ys : List V} {S : List Cell}, ys.length = S.length → S.Nodup → (∀ (i : Nat) (y : V), ys[i]? = some y → DrawC S D i y H) →
    ∃ (qs : List Addr) (ρ : Cell → Int), ys = qs.map V.ref ∧ Paired (PairC H) qs (S.map fun k => (k, V.int (ρ k))) ∧ ∀ k ∈ S, ρ k ∈ D
  | [], [], _, _, _ => ⟨[], fun _ => 0, rfl, .nil, fun k m => by cases m⟩
  | [], _ :: _, h, _, _ => nomatch h
  | _ :: _, [], h, _, _ => nomatch h
  | y :: ys, s :: S, hl, nd, h => by
    have nd' := List.nodup_cons.mp nd
    obtain ⟨qs, ρ, e1, e2, e3⟩ := drawC_all (ys := ys) (S := S) (Nat.succ.inj hl) nd'.2 fun i y q => h (i + 1) y q
    obtain ⟨q, k, c, rfl, ek, hp, hc⟩ := h 0 y rfl
    obtain rfl : s = k := Option.some.inj ek
    refine ⟨q :: qs, fun x => if x = s then c else ρ x, by rw [e1]; rfl, ?_, fun k m => ?_⟩
    · have e4 : S.map (fun k => (k, V.int (if k = s then c else ρ k))) = S.map fun k => (k, V.int (ρ k)) := List.map_congr_left fun k m => by
        rw [if_neg (fun z : k = s => nd'.1 (z ▸ m))]
      show Paired (PairC H) (q :: qs) ((s, V.int (if s = s then c else ρ s)) :: S.map (fun k => (k, V.int (if k = s then c else ρ k))))
      rw [e4, if_pos rfl]
      exact .cons hp e2
    · rcases List.mem_cons.mp m with rfl | m
      · show (if k = k then c else ρ k) ∈ D
        rw [if_pos rfl]
        exact hc
      · show (if k = s then c else ρ k) ∈ D
        rw [if_neg (fun z : k = s => nd'.1 (z ▸ m))]
        exact e3 k m
mutual
theorem eval_in {N : Int → Prop} {E A : Cell → Prop} {ρ : Cell → Int} (h : ∀ k, E k → N (ρ k)) : ∀ f : Fo.Form Cell, Fo.Ok N E A f → N (Fo.eval ρ f)
  | .col c, q => q
  | .cel k, q => h k q
  | .ask k r o, ⟨_, _, b, d⟩ => by
    have h1 := eval_inR h (ρ k) r b
    show N ((Fo.evalR ρ (ρ k) r).getD (Fo.eval ρ o))
    cases e : Fo.evalR ρ (ρ k) r with
    | none => exact eval_in h o d
    | some x => exact h1 x e
theorem eval_inR {N : Int → Prop} {E A : Cell → Prop} {ρ : Cell → Int} (h : ∀ k, E k → N (ρ k)) (v : Int) : ∀ r : Fo.Rows Cell, Fo.OkR N E A r → ∀ x, Fo.evalR ρ v r = some x → N x
  | .nil, _, x, e => by cases e
  | .cons c f t, ⟨_, b, d⟩, x, e => by
    have e' : (if v = c then some (Fo.eval ρ f) else Fo.evalR ρ v t) = some x := e
    split at e'
    · rw [← Option.some.inj e']
      exact eval_in h f b
    · exact eval_inR h v t d x e'
end
/-- the law's changed form -/
def bentF (ρ : Cell → Int) (w : Int) (f : Fo.Form Cell) : List Cell → Fo.Form Cell → Fo.Form Cell
  | [], g => g
  | k :: L, g => bentF ρ w f L (.ask k (.cons (ρ k) g .nil) f)
theorem bentF_app (ρ : Cell → Int) (w : Int) (f : Fo.Form Cell) (k : Cell) : ∀ (L : List Cell) (g : Fo.Form Cell), bentF ρ w f (L ++ [k]) g = .ask k (.cons (ρ k) (bentF ρ w f L g) .nil) f
  | [], g => rfl
  | l :: L, g => bentF_app ρ w f k L _
theorem bentF_eval (ρ : Cell → Int) (w : Int) (f : Fo.Form Cell) : ∀ (L : List Cell) (g : Fo.Form Cell), Fo.eval ρ (bentF ρ w f L g) = Fo.eval ρ g
  | [], g => rfl
  | k :: L, g => by
    show Fo.eval ρ (bentF ρ w f L (.ask k (.cons (ρ k) g .nil) f)) = _
    rw [bentF_eval ρ w f L]
    show ((if ρ k = ρ k then some (Fo.eval ρ g) else none).getD _) = _
    rw [if_pos rfl]
    rfl
theorem bentF_ok {ρ : Cell → Int} {w : Int} {f : Fo.Form Cell} {N : Int → Prop} {E : Cell → Prop} (hf : Fo.Ok N E E f) : ∀ (L : List Cell) (g : Fo.Form Cell), Fo.Ok N E E g → (∀ k ∈ L, E k ∧ N (ρ k)) → Fo.Ok N E E (bentF ρ w f L g)
  | [], g, h, _ => h
  | k :: L, g, h, hL => bentF_ok hf L _ ⟨(hL k List.mem_cons_self).1, ⟨by simp [Fo.cols], by simp [Fo.cols]⟩, ⟨(hL k List.mem_cons_self).2, h, trivial⟩, hf⟩ fun k m => hL k (List.mem_cons_of_mem _ m)
theorem bentF_dp (ρ : Cell → Int) (w : Int) (f : Fo.Form Cell) : ∀ (L : List Cell) (g : Fo.Form Cell), dpF (bentF ρ w f L g) ≤ L.length + max (dpF f) (dpF g)
  | [], g => by show dpF g ≤ 0 + _; omega
  | k :: L, g => by
    have := bentF_dp ρ w f L (.ask k (.cons (ρ k) g .nil) f)
    have e : dpF (.ask k (.cons (ρ k) g .nil) f) = 1 + max (max (dpF g) 0) (dpF f) := rfl
    show dpF (bentF ρ w f L (.ask k (.cons (ρ k) g .nil) f)) ≤ (L.length + 1) + _
    omega
theorem bentF_sz (ρ : Cell → Int) (w : Int) (f : Fo.Form Cell) : ∀ (L : List Cell) (g : Fo.Form Cell), szF (bentF ρ w f L g) = L.length * (2 + szF f) + szF g
  | [], g => by show szF g = 0 * _ + szF g; omega
  | k :: L, g => by
    have := bentF_sz ρ w f L (.ask k (.cons (ρ k) g .nil) f)
    have e : szF (.ask k (.cons (ρ k) g .nil) f) = 1 + ((1 + (szF g + 0)) + szF f) := rfl
    show szF (bentF ρ w f L (.ask k (.cons (ρ k) g .nil) f)) = (L.length + 1) * _ + _
    rw [this, e, Nat.succ_mul]
    omega
/-- what the law's change brings -/
structure Bent (C : List Int) (S : List Cell) (f g : Fo.Form Cell) : Prop where
  ne : ∃ ρ : Cell → Int, Fo.eval ρ g ≠ Fo.eval ρ f
  ok : ∃ w : Int, (0 ≤ w ∧ w ≤ 1000000000) ∧ Fo.Ok (fun c => c ∈ w :: (C ++ [77, 100000000])) (fun k => k ∈ S) (fun k => k ∈ S) g
  dp : dpF g ≤ dpF f + 3
  sz : szF g ≤ 3 * (2 + szF f) + 1
def spChg : Sp := fun vs H Q _ => ∃ (p sa ca : Addr) (v : V) (f : Fo.Form Cell) (as : List Addr) (S : List Cell) (C : List Int), vs = [.ref p, v, .ref sa, .ref ca] ∧ Pool H p ∧ FormAt H v f ∧ Fo.Ok (fun c => c ∈ C) (fun k => k ∈ S) (fun k => k ∈ S) f ∧ dpF f ≤ 12 ∧
  H sa = some (.lst (as.map V.ref)) ∧ Cells H as S ∧ S.length ≤ 3 ∧ S.Nodup ∧ H ca = some (.lst (C.map V.int)) ∧ C.length ≤ 3 ∧ (∀ c ∈ C, 0 ≤ c ∧ c ≤ 1000000000) ∧ ∀ v' g H', Ex H H' → FormAt H' v' g → Bent C S f g → Q v' H'
theorem e8 : (10 : Int) ^ Int.toNat 8 = 100000000 := by decide
theorem e9c : (10 : Int) ^ Int.toNat 9 = 1000000000 := by decide
set_option maxHeartbeats 4000000 in
theorem c_law_changed (T : Txt K mg) : Cl P w K mg base CX0 20 "_law_changed" s_law_changed ["_law_pool_here", "_law_shape", "_law_spots", "_law_colours"] spChg := by
  refine cl_of (k := 19) T.d_law_changed sc_law_changed (fun vs H Q E h => ?_) (fun f cdv A outer s H vs Q E hr h => ?_)
  · obtain ⟨p, sa, ca, v, f, as, S, C, rfl, _⟩ := h
    rfl
  · obtain ⟨p, sa, ca, v, fo, as, S, C, rfl, hp, hf, ok, hd, hS, cS, lS, nS, hC, lC, cC, q⟩ := h
    have nd := sc_law_changed.nd
    refine ⟨_, (pss_cons (ps_set (i := 5) nd rfl (Or.inl rfl) (pe_callTy ((cr_dictC rfl hr.units)) (by rfl) T.b_dict bt_dict (pa_cons (pe_lc (own := [("_law_spot", 4)]) (g := gName 4) (tt := tYes) rfl nd (pi_list (pv 2)) (L2.blkOk_by (N := N_law_changed) (sc := defScope s_law_changed) (by decide +kernel)) (fun _ _ _ _ _ => (pg_name (i := 4) nd rfl (Or.inl rfl))) (fun _ _ _ _ _ => pts_nil) (fun _ _ _ _ _ => (pe_tup (pa_cons (pv 4) (pa_cons (pe_ix (ix_seq : IxR _ (rIx K)) (pe_op op_cat (pv 3) (pe_lst (pa_cons pe_int (pa_cons (pe_op op_pow pe_int pe_int) pa_nil)))) (Lw.pe_cl (c_law_draw T) b_law_draw hr (by decide) (by rfl) pass0 (pa_cons (pv 0) (pa_cons (pe_op op_add (pe_callB (call_len : CallR _ _ (fun xs H Q => ∃ x n, xs = [x] ∧ LenV K x H n ∧ Q (.int n) H)) (by rfl) T.b_len bt_len (pa_cons (pv 3) pa_nil)) pe_int) pa_nil))) (fun _ _ => rfl)) pa_nil))))) pa_nil)))
      (pss_cons (ps_set (i := 6) nd rfl (Or.inl rfl) (Lw.pe_cl (c_law_value T 18) b_law_value hr (by decide) (by rfl) pass0 (pa_cons (pv 1) (pa_cons (pv 5) pa_nil))))
      (pss_cons (ps_set (i := 7) nd rfl (Or.inl rfl) (pe_tup (pa_cons pe_str (pa_cons (pe_ifExp (pt_cmpR op_lt (pv 6) (pe_op op_pow pe_int pe_int) (nomark _)) (pe_op op_add (pv 6) pe_int) pe_int) pa_nil))))
      (pss_cons (ps_for PassesOwn.never rfl (pi_list (pv 2)) (pg_name (i := 4) nd rfl (Or.inl rfl)) (pss_one (ps_set (i := 7) nd rfl (Or.inl rfl) (pe_tup (pa_cons pe_str (pa_cons (pv 4) (pa_cons (Lw.pe_tupF (pa_cons (pe_tup (pa_cons (pe_dget (Lw.u1 hr.units) (pv 5) (pv 4) (fun _ _ => rfl)) (pa_cons (pv 7) pa_nil))) pa_nil)) (pa_cons (pv 1) pa_nil))))))))
      (pss_one (ps_ret (pv 7))))))), ?_⟩
    rw [show L2.start N_law_changed [V.ref p, v, V.ref sa, V.ref ca] = [some (V.ref p), some v, some (V.ref sa), some (V.ref ca), none, none, none, none] from rfl]
    have las : as.length = S.length := Paired.length cS
    have lcm : (C.map V.int).length = C.length := List.length_map _
    repeat fail "st"
    intro D hD
    refine lcL (K := K) (All (DrawC S (C ++ [77, 100000000]))) (all_mono fun i y G G' e h => DrawC.ext i y G G' e h) hD (SqL.of hS) (by rw [List.length_map]; omega) (fun i x hi G eG Q1 Q2 q1 q2 => ?_) (fun H5 os5 e5 hl5 hD5 hp5 => ?_)
    · rw [List.getElem?_map] at hi
      obtain ⟨b, hb, rfl⟩ := Option.map_eq_some_iff.mp hi
      obtain ⟨k, gk, ck⟩ := paired_at (Cells.up eG cS) hb
      have hpG := hp.up eG
      have hCG := eG _ _ hC
      refine ⟨rfl, ?_⟩
      repeat fail "st"
      intro l7 n_l7
      generalize hh : upd _ l7 _ = H_l7
      have e_l7 := newEx hh n_l7
      have h_l7 := newAt hh
      clear hh
      dsimp only at h_l7
      rw [e8] at h_l7
      have hCG := e_l7 _ _ hCG
      refine ⟨ca, l7, _, _, rfl, rfl, hCG, h_l7, (by rw [lcm]; show _ + 2 ≤ _; have := Lw.line_ge; omega), ?_⟩
      intro l8 n_l8
      generalize hh : upd _ l8 _ = H_l8
      have e_l8 := newEx hh n_l8
      have h_l8 := newAt hh
      clear hh
      have h_l8 : H_l8 l8 = some (.lst ((C ++ [77, 100000000]).map V.int)) := by
        rw [h_l8, List.map_append]
        rfl
      have hpG := hpG.up (e_l7.trans e_l8)
      have ck := ck.up (e_l7.trans e_l8)
      have eB := e_l7.trans e_l8
      clear e_l7 e_l8 h_l7 hCG
      repeat fail "st"
      intro d4 H4 e4 d40 d41
      rw [lcm] at d41
      obtain ⟨j, rfl⟩ := Int.eq_ofNat_of_zero_le d40
      have hj : j < (C ++ [77, 100000000]).length := by
        rw [List.length_append]
        show j < C.length + 2
        omega
      have gj := List.getElem?_eq_getElem hj
      have h_l8 := e4 _ _ h_l8
      have ck := ck.up e4
      repeat fail "st"
      show rIx K _ _ _ _
      refine ixL_at (K := K) (j := j) (xs := (C ++ [77, 100000000]).map V.int) (SqL.of h_l8) rfl (by rw [List.getElem?_map, gj]; rfl) ?_
      repeat fail "st"
      intro t n_t
      generalize hh : upd _ t _ = H_t
      have e_t := newEx hh n_t
      have h_t := newAt hh
      clear hh
      exact q1 _ _ (eB.trans (e4.trans e_t)) ⟨_, rfl, t, k, _, rfl, gk, ⟨b, h_t, ck.up e_t⟩, List.getElem_mem hj⟩
    · obtain ⟨ys, ey, ly, hy⟩ := All.end hp5
      rw [ey] at hD5
      rw [hl5, List.length_map, las] at ly
      obtain ⟨qs, ρ, rfl, pq, hρ⟩ := drawC_all ly nS hy
      have hS := e5 _ _ hS
      have cS := Cells.up e5 cS
      have hf := hf.up e5
      have eA := e5
      clear hp5 hl5 ey ly hy e5 hC hp
      repeat fail "st"
      refine ⟨D, qs, _, rfl, SqL.of hD5, pq, ?_, ?_⟩
      · rw [List.map_map]
        show (S.map fun k => k).Nodup
        rw [List.map_id']
        exact nS
      intro kd n_kd
      generalize hh : upd _ kd _ = H_kd
      have e_kd := newEx hh n_kd
      have h_kd := newAt hh
      clear hh
      have hS := e_kd _ _ hS
      have cS := Cells.up e_kd cS
      have hf := hf.up e_kd
      have eA := eA.trans e_kd
      have kn : Known H_kd kd S ρ := ⟨_, h_kd, valC⟩
      clear pq hD5 e_kd h_kd
      try dsimp only [List.set]
      repeat fail "st"
      refine ⟨v, kd, fo, S, ρ, rfl, hf, kn, Fo.ok3 (fun _ _ => trivial) (fun _ h => h) (fun _ h => h) _ ok, by omega, fun H6 e6 => ?_⟩
      have hS := e6 _ _ hS
      have cS := Cells.up e6 cS
      have hf := hf.up e6
      have eA := eA.trans e6
      have kn := kn.up e6
      have rng : ∀ c ∈ C ++ [77, 100000000], 0 ≤ c ∧ c ≤ 1000000000 := fun c m => by
        rcases List.mem_append.mp m with m | m
        · exact cC c m
        · simp only [List.mem_cons, List.not_mem_nil, or_false] at m
          omega
      have was := eval_in (N := fun c => 0 ≤ c ∧ c ≤ 1000000000) (E := fun k => k ∈ S) (A := fun k => k ∈ S) (ρ := ρ) (fun k m => rng _ (hρ k m)) fo (Fo.ok3 (fun c m => cC c m) (fun _ h => h) (fun _ h => h) _ ok)
      clear e6
      generalize hev : Fo.eval ρ fo = ev at *
      try dsimp only [List.set]
      repeat fail "st"
      refine ifD (fun hb => ?_) (fun hb => ?_)
      · rw [e9c] at hb
        have wr : 0 ≤ ev + 1 ∧ ev + 1 ≤ 1000000000 := by omega
        have wne : ev + 1 ≠ ev := by omega
        repeat fail "st"
        intro c0 n_c0
        generalize hh : upd _ c0 _ = H_c0
        have e_c0 := newEx hh n_c0
        have h_c0 := newAt hh
        clear hh
        have hS := e_c0 _ _ hS
        have cS := Cells.up e_c0 cS
        have hf := hf.up e_c0
        have eA := eA.trans e_c0
        have kn := kn.up e_c0
        clear e_c0 n_c0
        repeat fail "st"
        refine for_list (xs := as.map V.ref) (fun i σ H' => ∃ y4 u, σ = [some (.ref p), some v, some (.ref sa), some (.ref ca), y4, some (.ref kd), some (.int ev), some u] ∧ Ex H_c0 H' ∧ FormAt H' u (bentF ρ 0 fo (S.take i) (.col (ev + 1)))) ⟨_, _, rfl, Ex.refl _, .col h_c0⟩ ?_ ?_ ?_
        · rintro _ _ G _ ⟨y4, u, rfl, e, _⟩
          exact SqL.of (e _ _ hS)
        · rintro i x _ G hx ⟨y4, u, rfl, e, hu⟩
          rw [List.getElem?_map] at hx
          obtain ⟨b, hb2, rfl⟩ := Option.map_eq_some_iff.mp hx
          obtain ⟨k, gk, ck⟩ := paired_at (Cells.up e cS) hb2
          have mk : k ∈ S := List.mem_of_getElem? gk
          have kn := kn.up e
          have hf := hf.up e
          try dsimp only [List.set]
          repeat fail "st"
          refine ⟨kd, _, rfl, kn.get ck mk, ?_⟩
          repeat fail "st"
          intro t1 n_t1
          generalize hh : upd _ t1 _ = H_t1
          have e_t1 := newEx hh n_t1
          have h_t1 := newAt hh
          clear hh
          repeat fail "st"
          intro rl ob n_r hob
          generalize hh : upd _ rl _ = H_r
          have e_r := newEx hh n_r
          have h_r := newAt hh
          clear hh
          repeat fail "st"
          intro t n_t
          generalize hh : upd _ t _ = H_t
          have e_t := newEx hh n_t
          have h_t := newAt hh
          clear hh
          have e2 := e_r.trans e_t
          have e3 := e_t1.trans e2
          refine ⟨_, _, rfl, e.trans e3, ?_⟩
          rw [List.take_add_one, gk]
          show FormAt _ _ (bentF ρ 0 fo (S.take i ++ [k]) (.col (ev + 1)))
          rw [bentF_app]
          exact .ask h_t (ck.up e3) ⟨ob, hob, e_t _ _ h_r⟩ (.cons (e2 _ _ h_t1) (hu.up e3) .nil) (hf.up e3)
        · rintro _ G ⟨y4, u, rfl, e, hu⟩
          rw [List.length_map, las, List.take_length] at hu
          repeat fail "st"
          refine q u _ G (eA.trans e) hu ⟨⟨ρ, ?_⟩, ⟨(ev + 1), wr, ?_⟩, ?_, ?_⟩
          · rw [bentF_eval, hev]
            exact wne
          · exact bentF_ok (Fo.ok3 (fun c m => List.mem_cons_of_mem _ (List.mem_append.mpr (.inl m))) (fun _ h => h) (fun _ h => h) _ ok) S (.col (ev + 1)) List.mem_cons_self fun k m => ⟨m, List.mem_cons_of_mem _ (hρ k m)⟩
          · have := bentF_dp ρ 0 fo S (.col (ev + 1))
            have e1 : dpF (Fo.Form.col (ev + 1) : Fo.Form Cell) = 1 := rfl
            have e2 := dpF_pos fo
            omega
          · rw [bentF_sz]
            have e1 : szF (Fo.Form.col (ev + 1) : Fo.Form Cell) = 1 := rfl
            have e2 : S.length * (2 + szF fo) ≤ 3 * (2 + szF fo) := Nat.mul_le_mul_right _ lS
            omega
      · rw [e9c] at hb
        have wr : 0 ≤ (0 : Int) ∧ (0 : Int) ≤ 1000000000 := by omega
        have wne : (0 : Int) ≠ ev := by omega
        repeat fail "st"
        intro c0 n_c0
        generalize hh : upd _ c0 _ = H_c0
        have e_c0 := newEx hh n_c0
        have h_c0 := newAt hh
        clear hh
        have hS := e_c0 _ _ hS
        have cS := Cells.up e_c0 cS
        have hf := hf.up e_c0
        have eA := eA.trans e_c0
        have kn := kn.up e_c0
        clear e_c0 n_c0
        repeat fail "st"
        refine for_list (xs := as.map V.ref) (fun i σ H' => ∃ y4 u, σ = [some (.ref p), some v, some (.ref sa), some (.ref ca), y4, some (.ref kd), some (.int ev), some u] ∧ Ex H_c0 H' ∧ FormAt H' u (bentF ρ 0 fo (S.take i) (.col 0))) ⟨_, _, rfl, Ex.refl _, .col h_c0⟩ ?_ ?_ ?_
        · rintro _ _ G _ ⟨y4, u, rfl, e, _⟩
          exact SqL.of (e _ _ hS)
        · rintro i x _ G hx ⟨y4, u, rfl, e, hu⟩
          rw [List.getElem?_map] at hx
          obtain ⟨b, hb2, rfl⟩ := Option.map_eq_some_iff.mp hx
          obtain ⟨k, gk, ck⟩ := paired_at (Cells.up e cS) hb2
          have mk : k ∈ S := List.mem_of_getElem? gk
          have kn := kn.up e
          have hf := hf.up e
          try dsimp only [List.set]
          repeat fail "st"
          refine ⟨kd, _, rfl, kn.get ck mk, ?_⟩
          repeat fail "st"
          intro t1 n_t1
          generalize hh : upd _ t1 _ = H_t1
          have e_t1 := newEx hh n_t1
          have h_t1 := newAt hh
          clear hh
          repeat fail "st"
          intro rl ob n_r hob
          generalize hh : upd _ rl _ = H_r
          have e_r := newEx hh n_r
          have h_r := newAt hh
          clear hh
          repeat fail "st"
          intro t n_t
          generalize hh : upd _ t _ = H_t
          have e_t := newEx hh n_t
          have h_t := newAt hh
          clear hh
          have e2 := e_r.trans e_t
          have e3 := e_t1.trans e2
          refine ⟨_, _, rfl, e.trans e3, ?_⟩
          rw [List.take_add_one, gk]
          show FormAt _ _ (bentF ρ 0 fo (S.take i ++ [k]) (.col 0))
          rw [bentF_app]
          exact .ask h_t (ck.up e3) ⟨ob, hob, e_t _ _ h_r⟩ (.cons (e2 _ _ h_t1) (hu.up e3) .nil) (hf.up e3)
        · rintro _ G ⟨y4, u, rfl, e, hu⟩
          rw [List.length_map, las, List.take_length] at hu
          repeat fail "st"
          refine q u _ G (eA.trans e) hu ⟨⟨ρ, ?_⟩, ⟨0, wr, ?_⟩, ?_, ?_⟩
          · rw [bentF_eval, hev]
            exact wne
          · exact bentF_ok (Fo.ok3 (fun c m => List.mem_cons_of_mem _ (List.mem_append.mpr (.inl m))) (fun _ h => h) (fun _ h => h) _ ok) S (.col 0) List.mem_cons_self fun k m => ⟨m, List.mem_cons_of_mem _ (hρ k m)⟩
          · have := bentF_dp ρ 0 fo S (.col 0)
            have e1 : dpF (Fo.Form.col 0 : Fo.Form Cell) = 1 := rfl
            have e2 := dpF_pos fo
            omega
          · rw [bentF_sz]
            have e1 : szF (Fo.Form.col 0 : Fo.Form Cell) = 1 := rfl
            have e2 : S.length * (2 + szF fo) ≤ 3 * (2 + szF fo) := Nat.mul_le_mul_right _ lS
            omega
end

end K45
namespace K45
open PySem PySem.Spec PyProof.Rows L2 Evl Lw
section
variable {P : Program} {w : World} {K : PySem.W.Frag} {mg : Str → Option Value} {base : Heap}
theorem onL_shk {k : Cell} (o : OnL k) : ShK k := by
  rcases o with rfl | ⟨d, h0, h1, rfl⟩ | rfl | ⟨d, h0, h1, rfl⟩ | rfl
  · exact ⟨.inl rfl, ⟨by decide, by decide⟩, by decide, by decide⟩
  · exact ⟨.inl rfl, ⟨h0, by show d ≤ 1000000000000; omega⟩, by show (0 : Int) ≤ 0; decide, by show (0 : Int) ≤ 1000000000000; decide⟩
  · exact ⟨.inr (.inr rfl), ⟨by decide, by decide⟩, by decide, by decide⟩
  · exact ⟨.inr (.inl rfl), ⟨by show (0 : Int) ≤ 2; decide, by show (2 : Int) ≤ 1000000000000; decide⟩, by show (0 : Int) ≤ 999999999999 - d; omega, by show 999999999999 - d ≤ (1000000000000 : Int); omega⟩
  · exact ⟨.inr (.inl rfl), ⟨by decide, by decide⟩, by decide, by decide⟩
theorem red_of {H : Hp} {l : List Sfc} {v : V} {f : Fo.Form Cell} {CC : List Int} {S : List Cell} (hf : FormAt H v f) (ok : Fo.Ok (fun c => c ∈ CC) (fun k => k ∈ S) (fun k => k ∈ S) f) (hc : ∀ c ∈ CC, ColB c) (hk : ∀ k ∈ S, isCellB l (vdC k) = true) (lS : S.length ≤ 5) (lC : CC.length ≤ 6) (d : dpF f ≤ 8) (z : szF f ≤ 20000) : RedAt H l v f := by
  have h1 := dp_vd f
  have h2 := wd_vd f
  exact ⟨vdF f, S, CC, (form_vtu hf ok).vat, by omega, by omega, isF_vd hc hk hk ok, hf, Fo.ok3 (fun _ h => h) (fun _ _ => trivial) (fun _ h => h) _ ok, lS, lC, by omega, z⟩
theorem red_shows {H : Hp} {v : V} {f : Fo.Form Cell} {CC : List Int} {S : List Cell} (ok : Fo.Ok (fun c => c ∈ CC) (fun k => k ∈ S) (fun k => k ∈ S) f) (hc : ∀ c ∈ CC, ColB c) (hs : ∀ k ∈ S, ShK k) (lS : S.length ≤ 5) (lC : CC.length ≤ 6) (hv : FormAt H v (Fo.redN ltC 5 f)) :
    (Dd K H v (datF (Fo.redN ltC 5 f)) ∧ Shows (datF (Fo.redN ltC 5 f))) ∧ Fo.Ok ShN (fun k => k ∈ S) (fun k => k ∈ S) (Fo.redN ltC 5 f) := by
  obtain ⟨r1, r2⟩ := red_size ltC lC 5 f S (Fo.ok3 (fun _ h => h) (fun _ h => h) (fun _ h => h) _ ok) lS
  have r3 : bigB 5 = 36414 := rfl
  have ok2 : Fo.Ok ShN (fun k => k ∈ S) (fun k => k ∈ S) (Fo.redN ltC 5 f) := Fo.ok3 (fun c m => ⟨(hc c m).1, Int.le_trans (hc c m).2 (by decide)⟩) (fun _ h => h) (fun _ h => h) _ (Fo.red_ok ltC 5 f _ ok)
  exact ⟨form_shows hs hs hv ok2 (by omega) (by omega), ok2⟩
theorem menu_far : ∀ C ∈ menuL, ∀ c ∈ C, c < 5000 ∨ 6000 < c := by
  unfold menuL
  decide
theorem ltC_trans (a b c : Cell) (h1 : ltC a b = true) (h2 : ltC b c = true) : ltC a c = true := by
  cases h : ltC a c with
  | true => rfl
  | false =>
    rcases (PyProof.Rows.listOrd PyProof.Rows.itemOrd).negTrans _ (PySem.W.keyToks (datC c)) _ (show (PyProof.Rows.listOrd PyProof.Rows.itemOrd).blt (PySem.W.keyToks (datC a)) (PySem.W.keyToks (datC b)) = true from h1) with t | t
    · rw [show ltC a c = true from t] at h
      cases h
    · have := ltC_asym b c h2
      rw [show ltC c b = true from t] at this
      cases this
set_option maxHeartbeats 4000000 in
theorem c_law_right (T : Txt K mg) : ClG P w K mg base CX0 (43) "_law_right" s_law_right ["_law_pool_here"] spCheck := by
  refine clG_of (k := 42) T.d_law_right sc_law_right (fun vs H Q E h => ?_) (fun f cdv A outer s H vs Q E gd hr h => ?_)
  · obtain ⟨p, rfl, _⟩ := h
    rfl
  · obtain ⟨p, rfl, hp, q⟩ := h
    have nd := sc_law_right.nd
    refine ⟨_, (pss_cons (ps_for PassesOwn.never rfl (pi_range1 (by rfl) T.b_range (pa_cons pe_int pa_nil)) (pg_name (i := 1) nd rfl (Or.inl rfl)) (pss_cons (ps_asg (Lw.pe_cl (c_law_large T) b_law_large hr (by decide) (by rfl) pass0 (pa_cons (pv 0) pa_nil)) (pg_lst rfl (pgs_cons (pg_name (i := 2) nd rfl (Or.inl rfl)) (pgs_cons (pg_name (i := 3) nd rfl (Or.inl rfl)) (pgs_cons (pg_name (i := 4) nd rfl (Or.inl rfl)) pgs_nil)))))
      (pss_cons (ps_set (i := 5) nd rfl (Or.inl rfl) (Lw.pe_cl (c_law_form T 4) b_law_form hr (by decide) (by rfl) pass0 (pa_cons (pv 0) (pa_cons (pv 3) (pa_cons (pv 4) (pa_cons pe_int pa_nil))))))
      (pss_cons (ps_set (i := 6) nd rfl (Or.inl rfl) (Lw.pe_cl (c_law_otherwise T) b_law_otherwise hr (by decide) (by rfl) pass0 (pa_cons (pv 0) (pa_cons (Lw.pe_cl (c_law_otherwise T) b_law_otherwise hr (by decide) (by rfl) pass0 (pa_cons (pv 0) (pa_cons (pv 5) (pa_cons (pv 3) (pa_cons (pv 4) pa_nil))))) (pa_cons (pv 3) (pa_cons (pv 4) pa_nil))))))
      (pss_cons (ps_set (i := 7) nd rfl (Or.inl rfl) (Lw.pe_cl (c_law_changed T) b_law_changed hr (by decide) (by rfl) pass0 (pa_cons (pv 0) (pa_cons (pv 5) (pa_cons (pv 3) (pa_cons (pv 4) pa_nil))))))
      (pss_cons (ps_set (i := 8) nd rfl (Or.inl rfl) (pe_callB (Lw.call_reprD gd (Lw.u70 hr)) (by rfl) T.b_repr bt_repr (pa_cons (Lw.pe_cl (c_reduced T) b_reduced hr (by decide) (by rfl) pass0 (pa_cons (pv 2) (pa_cons (pv 5) pa_nil))) pa_nil)))
      (pss_cons (ps_if (PW.pt (pw_or (pt_cmpR op_ne (pe_callB (Lw.call_reprD gd (Lw.u70 hr)) (by rfl) T.b_repr bt_repr (pa_cons (Lw.pe_cl (c_reduced T) b_reduced hr (by decide) (by rfl) pass0 (pa_cons (pv 2) (pa_cons (pv 6) pa_nil))) pa_nil)) (pv 8) (nomark _)) (pw_or1 (pt_cmpR op_eq (pe_callB (Lw.call_reprD gd (Lw.u70 hr)) (by rfl) T.b_repr bt_repr (pa_cons (Lw.pe_cl (c_reduced T) b_reduced hr (by decide) (by rfl) pass0 (pa_cons (pv 2) (pa_cons (pv 7) pa_nil))) pa_nil)) (pv 8) (nomark _))))) (pss_one (ps_ret pe_bl)) pss_nil)
      (pss_cons (ps_set (i := 9) nd rfl (Or.inl rfl) (pe_lst (pa_cons (Lw.pe_cl (c_same_value T) b_same_value hr (by decide) (by rfl) pass0 (pa_cons (pv 2) (pa_cons (pv 5) (pa_cons (pv 6) pa_nil)))) (pa_cons (Lw.pe_clk0 (g := fun {_} => gk_bk_same_value_0_other_form_form_stage) (c_same_value T) bk_same_value_0_other_form_form_stage rk_bk_same_value_0_other_form_form_stage hr (by decide) (by rfl) pass0 (pk_cons (pv 5) (pk_cons (pv 6) (pk_cons (pv 2) pk_nil)))) pa_nil))))
      (pss_cons (ps_set (i := 9) nd rfl (Or.inl rfl) (pe_op op_cat (pv 9) (pe_lst (pa_cons (Lw.pe_cl (c_same_value T) b_same_value hr (by decide) (by rfl) pass0 (pa_cons (pv 2) (pa_cons (pv 5) (pa_cons (pv 7) pa_nil)))) (pa_cons (Lw.pe_cl (c_same_value T) b_same_value hr (by decide) (by rfl) pass0 (pa_cons (pv 2) (pa_cons (pv 7) (pa_cons (pv 6) pa_nil)))) (pa_cons (Lw.pe_cl (c_same_value T) b_same_value hr (by decide) (by rfl) pass0 (pa_cons (pv 2) (pa_cons (pv 7) (pa_cons (pv 7) pa_nil)))) pa_nil))))))
      (pss_one (ps_if (pt_cmpR op_ne (pe_callB (Lw.call_reprD gd (Lw.u70 hr)) (by rfl) T.b_repr bt_repr (pa_cons (pv 9) pa_nil)) (pe_callB (Lw.call_reprD gd (Lw.u70 hr)) (by rfl) T.b_repr bt_repr (pa_cons (pe_lst (pa_cons pe_bl (pa_cons pe_bl (pa_cons pe_bl (pa_cons pe_bl (pa_cons pe_bl pa_nil)))))) pa_nil)) (nomark _)) (pss_one (ps_ret pe_bl)) pss_nil)))))))))))
      (pss_one (ps_ret pe_bl))), ?_⟩
    rw [show L2.start N_law_right [V.ref p] = [some (V.ref p), none, none, none, none, none, none, none, none, none] from rfl]
    repeat fail "st"
    refine for_range (fun _ σ H' => ∃ y1 y2 y3 y4 y5 y6 y7 y8 y9, σ = [some (.ref p), y1, y2, y3, y4, y5, y6, y7, y8, y9] ∧ Ex H H') ⟨_, _, _, _, _, _, _, _, _, rfl, Ex.refl _⟩ ?_ ?_
    · rintro i _ H1 hi ⟨y1, y2, y3, y4, y5, y6, y7, y8, y9, rfl, e1⟩
      have hp := hp.up e1
      try dsimp only [List.set]
      repeat fail "st"
      intro t r sa ca h as S C H2 e2 ht bh sg hS cS neS lS nS onS hC mC
      have hp := hp.up e2
      have eA := e1.trans e2
      obtain ⟨neC, lC, pC, cC⟩ := menu_ok C mC
      clear e1 e2
      try dsimp only [List.set]
      repeat fail "st"
      refine ⟨p, sa, ca, 3, 3, as, S, C, rfl, rfl, by decide, hp, hS, cS, neS, lS, hC, neC, lC, pC, fun v1 fo H3 e3 hf ok g1 g2 => ?_⟩
      have hp := hp.up e3
      have hS := e3 _ _ hS
      have cS := Cells.up e3 cS
      have hC := e3 _ _ hC
      have sg := sg.up e3
      have eA := eA.trans e3
      have z3 : szb 3 = 148 := rfl
      clear e3 ht
      try dsimp only [List.set]
      repeat fail "st"
      refine ⟨p, sa, ca, v1, fo, (fun c => c ∈ C), as, S, C, rfl, hp, hf, ok, fun c m => m, by omega, by omega, hS, cS, neS, lS, hC, neC, lC, pC, fun u1 m1 H4 e4 hm1 O1 => ?_⟩
      obtain ⟨d1, bd1, ok1⟩ := O1.ok
      have t11 : Fo.tm 1 m1 ≤ max (Fo.tm 2 fo) (4 + 6 * Fo.tm 1 fo) := O1.t 1
      have t12 : Fo.tm 2 m1 ≤ max (Fo.tm 3 fo) (5 + 9 * Fo.tm 2 fo) := O1.t 2
      have b1 := tm_base lC 1 3 fo ok g1
      have b2 := tm_base lC 2 3 fo ok g1
      have b3 := tm_base lC 3 3 fo ok g1
      rw [show tb 1 3 = 148 from rfl] at b1
      rw [show tb 2 3 = 280 from rfl] at b2
      rw [show tb 3 3 = 474 from rfl] at b3
      have dd1 := O1.dp
      have s1 := sz_tm m1
      have hp := hp.up e4
      have hS := e4 _ _ hS
      have cS := Cells.up e4 cS
      have hC := e4 _ _ hC
      have sg := sg.up e4
      have hf := hf.up e4
      have eA := eA.trans e4
      clear e4
      repeat fail "st"
      refine ⟨p, sa, ca, u1, m1, (fun c => c = d1 ∨ c ∈ C), as, S, C, rfl, hp, hm1, ok1, fun c m => .inr m, by omega, by omega, hS, cS, neS, lS, hC, neC, lC, pC, fun u2 m2 H5 e5 hm2 O2 => ?_⟩
      obtain ⟨d2, bd2, ok2⟩ := O2.ok
      have t21 : Fo.tm 1 m2 ≤ max (Fo.tm 2 m1) (4 + 6 * Fo.tm 1 m1) := O2.t 1
      have dd2 := O2.dp
      have s2 := sz_tm m2
      have evm : ∀ ρ : Cell → Int, Fo.eval ρ m2 = Fo.eval ρ fo := fun ρ => (O2.ev ρ).trans (O1.ev ρ)
      have dm : dpF m2 ≤ 8 := by omega
      have zm : szF m2 ≤ 20000 := by omega
      have hp := hp.up e5
      have hS := e5 _ _ hS
      have cS := Cells.up e5 cS
      have hC := e5 _ _ hC
      have sg := sg.up e5
      have hf := hf.up e5
      have eA := eA.trans e5
      clear e5 O1 O2 t11 t12 t21 b1 b2 b3 s1 s2 dd1 dd2 hm1
      try dsimp only [List.set]
      repeat fail "st"
      refine ⟨p, sa, ca, v1, fo, as, S, C, rfl, hp, hf, ok, by omega, hS, cS, lS, nS, hC, lC, cC, fun u3 bf H6 e6 hb B => ?_⟩
      obtain ⟨wb, bw, okb⟩ := B.ok
      obtain ⟨ρb, neb⟩ := B.ne
      have db := B.dp
      have zb := B.sz
      have hm2 := hm2.up e6
      have sg := sg.up e6
      have hf := hf.up e6
      have eA := eA.trans e6
      clear e6 B hS cS hC hp
      have onk : ∀ k ∈ S, isCellB (roomsL h) (vdC k) = true := fun k m => onL_cell bh (onS k m)
      have shk : ∀ k ∈ S, ShK k := fun k m => onL_shk (onS k m)
      have rf := red_of (l := roomsL h) hf ok cC onk (by omega) (by omega) (by omega) (by omega)
      have okm : Fo.Ok (fun c => c ∈ d2 :: d1 :: C) (fun k => k ∈ S) (fun k => k ∈ S) m2 := Fo.ok3 (fun c m => by
        rcases m with rfl | rfl | m
        · exact List.mem_cons_self
        · exact List.mem_cons_of_mem _ List.mem_cons_self
        · exact List.mem_cons_of_mem _ (List.mem_cons_of_mem _ m)) (fun _ h => h) (fun _ h => h) _ ok2
      have cm : ∀ c ∈ d2 :: d1 :: C, ColB c := fun c m => by
        rcases List.mem_cons.mp m with rfl | m
        · exact ⟨bd2.1, Int.le_trans bd2.2 (by decide)⟩
        rcases List.mem_cons.mp m with rfl | m
        · exact ⟨bd1.1, Int.le_trans bd1.2 (by decide)⟩
        exact cC c m
      have rm := red_of (l := roomsL h) hm2 okm cm onk (by omega) (by show C.length + 1 + 1 ≤ 6; omega) dm zm
      have cb : ∀ c ∈ wb :: (C ++ [77, 100000000]), ColB c := fun c m => by
        rcases List.mem_cons.mp m with rfl | m
        · exact bw
        rcases List.mem_append.mp m with m | m
        · exact cC c m
        simp only [List.mem_cons, List.not_mem_nil, or_false] at m
        rcases m with rfl | rfl
        · exact ⟨by decide, by decide⟩
        · exact ⟨by decide, by decide⟩
      have rb := red_of (l := roomsL h) hb okb cb onk (by omega) (by show (C ++ [77, 100000000]).length + 1 ≤ 6; rw [List.length_append]; show C.length + 2 + 1 ≤ 6; omega) (by omega) (by omega)
      have hme : Fo.redN ltC 5 m2 = Fo.redN ltC 5 fo := Fo.forms_same (C := d2 :: d1 :: C) (S := S) ltC_asym ltC_trans (fun a b => ltC_total) okm (Fo.ok3 (fun c m => List.mem_cons_of_mem _ (List.mem_cons_of_mem _ m)) (fun _ h => h) (fun _ h => h) _ ok) (fun i hi m => by
        have o5 : Fo.own i = 5000 + 7 * i := rfl
        rcases List.mem_cons.mp m with e | m
        · omega
        rcases List.mem_cons.mp m with e | m
        · omega
        have := menu_far C mC _ m
        omega) (by omega) evm
      have hne : Fo.redN ltC 5 bf ≠ Fo.redN ltC 5 fo := fun z => neb (by
        have h1 := Fo.red_eval ltC 5 bf ρb
        have h2 := Fo.red_eval ltC 5 fo ρb
        rw [← h1, ← h2, z])
      try dsimp only [List.set]
      repeat fail "st"
      obtain ⟨d_w1, S_w1, C_w1, q1, q2, q3, q4, q5, q6, q7, q8, q9, q10⟩ := id rf
      refine ⟨r, v1, _, d_w1, fo, S_w1, C_w1, rfl, sg, q1, q2, q3, q4, q5, q6, q7, q8, q9, q10, fun w1 G1 f_w1 hw1 => ?_⟩
      clear q1 q2 q3 q4 q5 q6 q7 q8 q9 q10
      have rm := rm.up f_w1
      have rb := rb.up f_w1
      have rf := rf.up f_w1
      have sg := sg.up f_w1
      have eA := eA.trans f_w1
      clear f_w1
      repeat fail "st"
      obtain ⟨⟨dd1, sh1⟩, okr1⟩ := red_shows ok cC shk (by omega) (by omega) hw1
      refine ⟨w1, _, dd1, sh1, rfl, ?_⟩
      clear dd1 sh1 hw1
      try dsimp only [List.set]
      repeat fail "st"
      obtain ⟨d_w2, S_w2, C_w2, q1, q2, q3, q4, q5, q6, q7, q8, q9, q10⟩ := id rm
      refine ⟨r, u2, _, d_w2, m2, S_w2, C_w2, rfl, sg, q1, q2, q3, q4, q5, q6, q7, q8, q9, q10, fun w2 G2 f_w2 hw2 => ?_⟩
      clear q1 q2 q3 q4 q5 q6 q7 q8 q9 q10
      have rm := rm.up f_w2
      have rb := rb.up f_w2
      have rf := rf.up f_w2
      have sg := sg.up f_w2
      have eA := eA.trans f_w2
      clear f_w2
      repeat fail "st"
      obtain ⟨⟨dd2, sh2⟩, okr2⟩ := red_shows okm cm shk (by omega) (by show C.length + 1 + 1 ≤ 6; omega) hw2
      refine ⟨w2, _, dd2, sh2, rfl, ?_⟩
      clear dd2 sh2 hw2
      rw [hme]
      repeat fail "st"
      refine ifN (fun z => absurd rfl z) (fun _ => ?_)
      repeat fail "st"
      obtain ⟨d_w3, S_w3, C_w3, q1, q2, q3, q4, q5, q6, q7, q8, q9, q10⟩ := id rb
      refine ⟨r, u3, _, d_w3, bf, S_w3, C_w3, rfl, sg, q1, q2, q3, q4, q5, q6, q7, q8, q9, q10, fun w3 G3 f_w3 hw3 => ?_⟩
      clear q1 q2 q3 q4 q5 q6 q7 q8 q9 q10
      have rm := rm.up f_w3
      have rb := rb.up f_w3
      have rf := rf.up f_w3
      have sg := sg.up f_w3
      have eA := eA.trans f_w3
      clear f_w3
      repeat fail "st"
      obtain ⟨⟨dd3, sh3⟩, okr3⟩ := red_shows okb cb shk (by omega) (by show (C ++ [77, 100000000]).length + 1 ≤ 6; rw [List.length_append]; show C.length + 2 + 1 ≤ 6; omega) hw3
      refine ⟨w3, _, dd3, sh3, rfl, ?_⟩
      clear dd3 sh3 hw3
      repeat fail "st"
      refine ifD (fun z => absurd (shown_inj shk shk okr3 okr1 (V.str.inj z)) hne) (fun _ => ?_)
      clear okr1 okr2 okr3
      repeat fail "st"
      refine ⟨r, v1, u2, _, fo, m2, rfl, sg, rf, rm, fun G4 f4 => ?_⟩
      rw [decide_eq_true hme.symm]
      have rm := rm.up f4
      have rb := rb.up f4
      have rf := rf.up f4
      have sg := sg.up f4
      have eA := eA.trans f4
      clear f4
      repeat fail "st"
      refine ⟨r, u2, v1, _, m2, fo, rfl, sg, rm, rf, fun G5 f5 => ?_⟩
      rw [decide_eq_true hme]
      have rm := rm.up f5
      have rb := rb.up f5
      have rf := rf.up f5
      have sg := sg.up f5
      have eA := eA.trans f5
      clear f5
      repeat fail "st"
      intro l1 n_l1
      generalize hh : upd _ l1 _ = H_l1
      have e_l1 := newEx hh n_l1
      have h_l1 := newAt hh
      clear hh
      have rm := rm.up e_l1
      have rb := rb.up e_l1
      have rf := rf.up e_l1
      have sg := sg.up e_l1
      have eA := eA.trans e_l1
      clear e_l1
      try dsimp only [List.set]
      repeat fail "st"
      refine ⟨r, v1, u3, _, fo, bf, rfl, sg, rf, rb, fun G6 f6 => ?_⟩
      rw [decide_eq_false (fun z => hne z.symm)]
      have rm := rm.up f6
      have rb := rb.up f6
      have rf := rf.up f6
      have sg := sg.up f6
      have eA := eA.trans f6
      have h_l1 := f6 _ _ h_l1
      clear f6
      repeat fail "st"
      refine ⟨r, u3, u2, _, bf, m2, rfl, sg, rb, rm, fun G7 f7 => ?_⟩
      rw [decide_eq_false (fun z => hne (z.trans hme))]
      have rb := rb.up f7
      have sg := sg.up f7
      have eA := eA.trans f7
      have h_l1 := f7 _ _ h_l1
      clear f7
      repeat fail "st"
      refine ⟨r, u3, u3, _, bf, bf, rfl, sg, rb, rb, fun G8 f8 => ?_⟩
      rw [decide_eq_true rfl]
      have eA := eA.trans f8
      have h_l1 := f8 _ _ h_l1
      clear f8
      repeat fail "st"
      intro l2 n_l2
      generalize hh : upd _ l2 _ = H_l2
      have e_l2 := newEx hh n_l2
      have h_l2 := newAt hh
      clear hh
      have h_l1 := e_l2 _ _ h_l1
      refine ⟨l1, l2, _, _, rfl, rfl, h_l1, h_l2, Nat.le_trans (Nat.le_of_ble_eq_true rfl) Lw.line_ge, ?_⟩
      intro l3 n_l3
      generalize hh : upd _ l3 _ = H_l3
      have e_l3 := newEx hh n_l3
      have h_l3 := newAt hh
      clear hh
      have h_l3 : H_l3 l3 = some (.lst [.bl true, .bl true, .bl false, .bl false, .bl true]) := h_l3
      have eA := eA.trans (e_l2.trans e_l3)
      clear e_l2 e_l3 h_l1 h_l2
      try dsimp only [List.set]
      repeat fail "st"
      obtain ⟨dd1, sh1⟩ := dd_l (K := K) (SqL.of h_l3) (.cons (.bl true) (.cons (.bl true) (.cons (.bl false) (.cons (.bl false) (.cons (.bl true) .nil))))) (by show 5 ≤ 1000; omega)
      refine ⟨_, _, dd1, sh1, rfl, ?_⟩
      repeat fail "st"
      intro l4 n_l4
      generalize hh : upd _ l4 _ = H_l4
      have e_l4 := newEx hh n_l4
      have h_l4 := newAt hh
      clear hh
      repeat fail "st"
      obtain ⟨dd2, sh2⟩ := dd_l (K := K) (SqL.of h_l4) (.cons (.bl true) (.cons (.bl true) (.cons (.bl false) (.cons (.bl false) (.cons (.bl true) .nil))))) (by show 5 ≤ 1000; omega)
      refine ⟨_, _, dd2, sh2, rfl, ?_⟩
      repeat fail "st"
      refine ifN (fun z => absurd rfl z) (fun _ => ?_)
      repeat fail "st"
      exact ⟨_, _, _, _, _, _, _, _, _, rfl, eA.trans e_l4⟩
    · rintro _ H1 ⟨y1, y2, y3, y4, y5, y6, y7, y8, y9, rfl, e1⟩
      repeat fail "st"
      exact q _ e1
end

end K45
namespace K45
open PySem PySem.Spec PyProof.Rows L2 Evl Lw
section
variable {P : Program} {w : World} {K : PySem.W.Frag} {mg : Str → Option Value} {base : Heap}
theorem c_law (T : Txt K mg) : ClG P w K mg base CX0 44 "law" s_law ["_law_script"] (spLaw K) := by
  refine clG_of (k := 43) T.d_law sc_law (fun vs H Q E h => ?_) (fun f cdv A outer s H vs Q E gd hr h => ?_)
  · obtain ⟨a, ns, rfl, _⟩ := h
    rfl
  · obtain ⟨a, ns, rfl, hS, hl, q⟩ := h
    have nd := sc_law.nd
    refine ⟨_, (pss_one (ps_ret (pe_callB (cr_all rfl) (by rfl) T.b_all bt_all (pa_cons (pe_lc (own := [("_law_k", 1)]) (g := gName 1) (tt := tYes) rfl nd (pi_range1 (by rfl) T.b_range (pa_cons (pe_callB (call_max2 rfl) (by rfl) T.b_max bt_max (pa_cons pe_int (pa_cons (pe_callB (call_min2 rfl) (by rfl) T.b_min bt_min (pa_cons (pe_callB (call_len) (by rfl) T.b_len bt_len (pa_cons (pv 0) pa_nil)) (pa_cons pe_int pa_nil))) pa_nil))) pa_nil)) (L2.blkOk_by (N := N_law) (sc := defScope s_law) (by decide +kernel)) (fun _ _ _ _ _ => (pg_name (i := 1) nd rfl (Or.inl rfl))) (fun _ _ _ _ _ => pts_nil) (fun _ _ _ _ _ => (Lw.pe_clG (c_law_right T) b_law_right gd hr (by decide) (by rfl) pass0 (pa_cons (Lw.pe_cl (c_law_pool T) b_law_pool hr (by decide) (by rfl) pass0 (pa_cons (Lw.pe_cl (c_law_cell T) b_law_cell hr (by decide) (by rfl) pass0 (pa_cons (pv 0) (pa_cons (pv 1) pa_nil))) pa_nil)) pa_nil)))) pa_nil)))), ?_⟩
    repeat fail "st"
    intro D hD
    refine lcR (All fun _ v _ => v = V.bl true) (all_mono fun _ _ _ _ _ h => h) hD (by (repeat' split) <;> omega) (fun i hi H' e Q1 Q2 q1 q2 => ?_) (fun H1 os e1 hl1 hD1 hp1 => ?_)
    · have hi6 : i ≤ 6 := by
        revert hi
        (repeat' split) <;> omega
      repeat fail "st"
      refine ⟨_, _, _, rfl, (by fail "sql"), hl, by omega, by omega, fun c Hc ec => ?_⟩
      repeat fail "st"
      intro pl Hp np ep pp
      repeat fail "st"
      intro Hr er
      exact q1 _ _ (ec.trans (ep.trans er)) ⟨_, rfl, rfl⟩
    · obtain ⟨ys, ey, ly, hy⟩ := All.end hp1
      rw [ey] at hD1
      obtain ⟨bs, eb, hb⟩ := all_true (ys := ys) (fun y hy1 => by
        obtain ⟨i, hi, e⟩ := List.getElem_of_mem hy1
        exact hy i y (by rw [List.getElem?_eq_getElem hi, e]))
      subst eb
      refine ⟨_, _, rfl, SqL.of hD1, ?_⟩
      rw [hb]
      exact q _
theorem law_mk {l : PySem.W.OpenLaw} {h : Heap} {fa : Addr} (T : Txt K mg) (hfa : mg "law" = some (.ref fa)) : LawG l w K CX0 44 63 "_law_script" mg fa h := by
  obtain ⟨fd, F, b⟩ := law_fd T.d_law b_law hfa
  refine ⟨fd, [], spLaw K, fun p m => ?_, fun p m => ?_, fun p m => ?_, b, fun H a ns hl tb hS => ?_, fun base _ _ TB => ?_⟩
  · cases m
  · cases m
  · cases m
  · exact ⟨a, ns, rfl, hS, hl, fun _ => rfl⟩
  · exact (c_law T).at F hfa
end

end K45
open PySem PySem.W PyProof.Rows
set_option maxHeartbeats 0 in
theorem PySem.Challenge.cw_allscreens_k45_whole_forms_written_other_holds : PySem.Challenge.rw_allscreens_k45_whole_forms_written_other.Holds := by
  w_on; o_law; k_head; (case hw => w_witness2)
  k_fill
  refine Lw.walk_gd (l := PySem.Challenge.rw_allscreens_k45_whole_forms_written_other) (n := 63) (k := 44) (x := "_law_script") (CX := fun _ => L2.CX0) rfl (by decide) rfl ⟨rfl, by decide, by decide⟩ (fun w h Y => PySem.W.kIn_of Y) ?F (fun _ _ _ _ _ h => h)
  case F =>
    intro w mg fa h Y KX G hmg
    refine' K45.law_mk ⟨Lw.defAt_mk KX G ?a0 ?l0 ?c0 ?k0, Lw.defAt_mk KX G ?a1 ?l1 ?c1 ?k1, Lw.defAt_mk KX G ?a2 ?l2 ?c2 ?k2, Lw.defAt_mk KX G ?a3 ?l3 ?c3 ?k3, Lw.defAt_mk KX G ?a4 ?l4 ?c4 ?k4, Lw.defAt_mk KX G ?a5 ?l5 ?c5 ?k5, Lw.defAt_mk KX G ?a6 ?l6 ?c6 ?k6, Lw.defAt_mk KX G ?a7 ?l7 ?c7 ?k7, Lw.defAt_mk KX G ?a8 ?l8 ?c8 ?k8, Lw.defAt_mk KX G ?a9 ?l9 ?c9 ?k9, Lw.defAt_mk KX G ?a10 ?l10 ?c10 ?k10, Lw.defAt_mk KX G ?a11 ?l11 ?c11 ?k11, Lw.defAt_mk KX G ?a12 ?l12 ?c12 ?k12, Lw.defAt_mk KX G ?a13 ?l13 ?c13 ?k13, Lw.defAt_mk KX G ?a14 ?l14 ?c14 ?k14, Lw.defAt_mk KX G ?a15 ?l15 ?c15 ?k15, Lw.defAt_mk KX G ?a16 ?l16 ?c16 ?k16, Lw.defAt_mk KX G ?a17 ?l17 ?c17 ?k17, Lw.defAt_mk KX G ?a18 ?l18 ?c18 ?k18, Lw.defAt_mk KX G ?a19 ?l19 ?c19 ?k19, Lw.defAt_mk KX G ?a20 ?l20 ?c20 ?k20, Lw.defAt_mk KX G ?a21 ?l21 ?c21 ?k21, Lw.defAt_mk KX G ?a22 ?l22 ?c22 ?k22, Lw.defAt_mk KX G ?a23 ?l23 ?c23 ?k23, Lw.defAt_mk KX G ?a24 ?l24 ?c24 ?k24, Lw.defAt_mk KX G ?a25 ?l25 ?c25 ?k25, Lw.defAt_mk KX G ?a26 ?l26 ?c26 ?k26, Lw.defAt_mk KX G ?a27 ?l27 ?c27 ?k27, Lw.defAt_mk KX G ?a28 ?l28 ?c28 ?k28, Lw.defAt_mk KX G ?a29 ?l29 ?c29 ?k29, PySem.W.mg_none_of KX G ?z0, PySem.W.mg_none_of KX G ?z1, PySem.W.mg_none_of KX G ?z2, PySem.W.mg_none_of KX G ?z3, PySem.W.mg_none_of KX G ?z4, PySem.W.mg_none_of KX G ?z5, PySem.W.mg_none_of KX G ?z6, PySem.W.mg_none_of KX G ?z7, PySem.W.mg_none_of KX G ?z8, PySem.W.mg_none_of KX G ?z9, PySem.W.mg_none_of KX G ?z10, PySem.W.mg_none_of KX G ?z11, PySem.W.mg_none_of KX G ?z12, PySem.W.mg_none_of KX G ?z13, PySem.W.mg_none_of KX G ?z14, PySem.W.mg_none_of KX G ?z15, PySem.W.mg_none_of KX G ?z16, Lw.const_mk KX G ?cst0 ?rst0, Lw.const_mk KX G ?cst1 ?rst1, Lw.const_mk KX G ?cst2 ?rst2, Lw.const_mk KX G ?cst3 ?rst3, Lw.const_mk KX G ?cst4 ?rst4⟩ hmg
    (case a0 => k_is)
    (case l0 => k_is)
    (case c0 => k_is)
    (case k0 => k_is)
    (case a1 => k_is)
    (case l1 => k_is)
    (case c1 => k_is)
    (case k1 => k_is)
    (case a2 => k_is)
    (case l2 => k_is)
    (case c2 => k_is)
    (case k2 => k_is)
    (case a3 => k_is)
    (case l3 => k_is)
    (case c3 => k_is)
    (case k3 => k_is)
    (case a4 => k_is)
    (case l4 => k_is)
    (case c4 => k_is)
    (case k4 => k_is)
    (case a5 => k_is)
    (case l5 => k_is)
    (case c5 => k_is)
    (case k5 => k_is)
    (case a6 => k_is)
    (case l6 => k_is)
    (case c6 => k_is)
    (case k6 => k_is)
    (case a7 => k_is)
    (case l7 => k_is)
    (case c7 => k_is)
    (case k7 => k_is)
    (case a8 => k_is)
    (case l8 => k_is)
    (case c8 => k_is)
    (case k8 => k_is)
    (case a9 => k_is)
    (case l9 => k_is)
    (case c9 => k_is)
    (case k9 => k_is)
    (case a10 => k_is)
    (case l10 => k_is)
    (case c10 => k_is)
    (case k10 => k_is)
    (case a11 => k_is)
    (case l11 => k_is)
    (case c11 => k_is)
    (case k11 => k_is)
    (case a12 => k_is)
    (case l12 => k_is)
    (case c12 => k_is)
    (case k12 => k_is)
    (case a13 => k_is)
    (case l13 => k_is)
    (case c13 => k_is)
    (case k13 => k_is)
    (case a14 => k_is)
    (case l14 => k_is)
    (case c14 => k_is)
    (case k14 => k_is)
    (case a15 => k_is)
    (case l15 => k_is)
    (case c15 => k_is)
    (case k15 => k_is)
    (case a16 => k_is)
    (case l16 => k_is)
    (case c16 => k_is)
    (case k16 => k_is)
    (case a17 => k_is)
    (case l17 => k_is)
    (case c17 => k_is)
    (case k17 => k_is)
    (case a18 => k_is)
    (case l18 => k_is)
    (case c18 => k_is)
    (case k18 => k_is)
    (case a19 => k_is)
    (case l19 => k_is)
    (case c19 => k_is)
    (case k19 => k_is)
    (case a20 => k_is)
    (case l20 => k_is)
    (case c20 => k_is)
    (case k20 => k_is)
    (case a21 => k_is)
    (case l21 => k_is)
    (case c21 => k_is)
    (case k21 => k_is)
    (case a22 => k_is)
    (case l22 => k_is)
    (case c22 => k_is)
    (case k22 => k_is)
    (case a23 => k_is)
    (case l23 => k_is)
    (case c23 => k_is)
    (case k23 => k_is)
    (case a24 => k_is)
    (case l24 => k_is)
    (case c24 => k_is)
    (case k24 => k_is)
    (case a25 => k_is)
    (case l25 => k_is)
    (case c25 => k_is)
    (case k25 => k_is)
    (case a26 => k_is)
    (case l26 => k_is)
    (case c26 => k_is)
    (case k26 => k_is)
    (case a27 => k_is)
    (case l27 => k_is)
    (case c27 => k_is)
    (case k27 => k_is)
    (case a28 => k_is)
    (case l28 => k_is)
    (case c28 => k_is)
    (case k28 => k_is)
    (case a29 => k_is)
    (case l29 => k_is)
    (case c29 => k_is)
    (case k29 => k_is)
    (case z0 => k_is)
    (case z1 => k_is)
    (case z2 => k_is)
    (case z3 => k_is)
    (case z4 => k_is)
    (case z5 => k_is)
    (case z6 => k_is)
    (case z7 => k_is)
    (case z8 => k_is)
    (case z9 => k_is)
    (case z10 => k_is)
    (case z11 => k_is)
    (case z12 => k_is)
    (case z13 => k_is)
    (case z14 => k_is)
    (case z15 => k_is)
    (case z16 => k_is)
    (case cst0 => k_is)
    (case cst1 => k_is)
    (case cst2 => k_is)
    (case cst3 => k_is)
    (case cst4 => k_is)
    (case rst0 => exact ⟨_, rfl⟩)
    (case rst1 => exact ⟨_, rfl⟩)
    (case rst2 => exact ⟨_, rfl⟩)
    (case rst3 => exact ⟨_, rfl⟩)
    (case rst4 => exact ⟨_, rfl⟩)
