import PyProof.Rows.All
import Wide.All
import OpenK.AllK
import Wide.FinOn
import HandS.ForMost
import HandS.WideBits
import HandS.Wide
import HandS.IsInst
import HandS.Evl
import HandS.Codes
import HandS.Defaults
import HandS.Style
import HandS.RaiseMore
import KE.KDictPairs
import HandS.DictTup
import HandS.SortRule
import HandS.SortInts
import HandS.SetBool
import HandS.Strs
import HandS.TupAny
import PyProof.P3Eq
import PySem.Challenge.RW_allscreens_k09_colours_turned
set_option Elab.async false
set_option linter.all false
set_option maxRecDepth 100000
set_option maxHeartbeats 1000000
/-! The base of all proofs here: pools of draws as opaque objects, calls, values told in a heap. -/
namespace Lw
open PySem PySem.Spec PyProof.Rows L2 Evl

/-! ### a pool of draws: a list of three ints, whatever they are -/
def poolP (p : Addr) : Heap → Prop := fun h => ∃ (a b c : Int) (its : List Value) (n : Nat), Vals [.int a, .int b, .int c] its ∧ h.get? p = some { cls := .type "list", data := .seq its.toArray n }
def Pool (H : Hp) (p : Addr) : Prop := H p = some (.ext (poolP p))
theorem three_line : (3 : Nat) ≤ sizeLine := by decide

section
variable {P : Program} {w : World} {H : Hp} {h : Heap} {p : Addr}
theorem pool_open (ok : HOk P w H h) (hp : Pool H p) : ∃ a b c : Int, HOk P w (upd H p (.lst [.int a, .int b, .int c])) h := by
  obtain ⟨⟨a, b, c, its, n, r, e⟩, _, _⟩ := ok p _ hp
  refine ⟨a, b, c, fun x o hx => ?_⟩
  by_cases hb : x = p
  · subst hb
    rw [upd_same] at hx
    cases hx
    exact ⟨three_line, its, n, r, e⟩
  · rw [upd_ne hb] at hx
    refine (ok x o hx).stay (fun _ _ _ q => q) (fun y q => ?_) (fun y xs q => ?_)
    · rw [upd_ne (ne_of q hp (by intro z; cases z))]
      exact q
    · rw [upd_ne (ne_of q hp (by intro z; cases z))]
      exact q
theorem pool_close {a b c : Int} (ok : HOk P w H h) (hp : H p = some (.lst [.int a, .int b, .int c])) : HOk P w (upd H p (.ext (poolP p))) h := by
  obtain ⟨_, its, n, r, e⟩ := ok p _ hp
  refine fun x o hx => ?_
  by_cases hb : x = p
  · subst hb
    rw [upd_same] at hx
    cases hx
    exact ⟨⟨a, b, c, its, n, r, e⟩, ⟨_, e⟩, fun h1 h2 ⟨a, b, c, its, n, r, e⟩ k => ⟨a, b, c, its, n, r, k _ e⟩⟩
  · rw [upd_ne hb] at hx
    refine (ok x o hx).stay (fun _ _ _ q => q) (fun y q => ?_) (fun y xs q => ?_)
    · rw [upd_ne (ne_of q hp (by intro z; cases z))]
      exact q
    · rw [upd_ne (ne_of q hp (by intro z; cases z))]
      exact q
end

section
variable {P : Program} {w : World} {K : PySem.W.Frag} {mg : Str → Option Value} {base : Heap} {k : Nat} {f : Addr} {fd : FuncData} {ps : List Str} {sp sp1 : Sp}
/-- at the end: a new list of three ints is handed back as a pool -/
theorem fn_newpool (F : FnOk P w K mg base CX0 k f fd ps sp1)
    (h : ∀ vs H Q E, sp vs H Q E → sp1 vs H (fun v H' => ∃ p a b c, v = .ref p ∧ H p = none ∧ H' p = some (.lst [.int a, .int b, .int c]) ∧ Q v (upd H' p (.ext (poolP p)))) E) :
    FnOk P w K mg base CX0 k f fd ps sp := by
  refine ⟨fun vs H Q E q => F.len _ _ _ _ (h _ _ _ _ q), fun A outer s H args us vs Q E hr he hb hv hs => ?_⟩
  refine codeAny_mono (F.run A outer s H args us vs _ E hr he hb hv (h _ _ _ _ hs)) fun r s' q => ?_
  cases r with
  | error e => exact q
  | ok fl =>
    cases fl with
    | next => exact q
    | brk => exact q
    | cont => exact q
    | ret u =>
      obtain ⟨v, H', os, bare, un, hok, r, p, a, b, c, rfl, hn, hp, q⟩ := q
      refine ⟨_, _, os, bare, ?_, pool_close hok hp, r, q⟩
      refine ⟨un.keep, un.slot, fun x o e n hx => ?_, un.there, fun x xs e => ?_, fun x o u e => ?_, fun x t e => ?_⟩
      · by_cases hb : x = p
        · subst hb
          have := un.free x o e n hx
          rw [hp] at this
          cases this
        · rw [upd_ne hb]
          exact un.free x o e n hx
      · rw [upd_ne (ne_of (un.tups x xs e) hp (by intro z; cases z))]
        exact un.tups x xs e
      · rw [upd_ne (ne_of (un.frzs x o u e) hp (by intro z; cases z))]
        exact un.frzs x o u e
      · obtain ⟨m, e2⟩ := un.tbls x t e
        rw [upd_ne (ne_of e2 hp (by intro z; cases z))]
        exact ⟨m, e2⟩
/-- a def that works at a pool's three ints, told as one that leaves the pool a pool -/
theorem fn_pool (F : FnOk P w K mg base CX0 k f fd ps sp1)
    (h : ∀ vs H Q E, sp vs H Q E → vs.length = ps.length ∧ ∃ p, Pool H p ∧ ∀ a b c : Int, sp1 vs (upd H p (.lst [.int a, .int b, .int c])) (fun v H' => ∃ a b c : Int, H' p = some (.lst [.int a, .int b, .int c]) ∧ Q v (upd H' p (.ext (poolP p)))) E) :
    FnOk P w K mg base CX0 k f fd ps sp := by
  refine ⟨fun vs H Q E q => (h _ _ _ _ q).1, fun A outer s H args us vs Q E hr he hb hv hs => ?_⟩
  obtain ⟨_, p, hp, hs⟩ := h _ _ _ _ hs
  obtain ⟨a, b, c, ok⟩ := pool_open he.hok hp
  have e1 : Env0 P w K mg base A outer s (upd H p (.lst [.int a, .int b, .int c])) :=
    ⟨he.frames, he.mod, fun x o e => ⟨(he.bs x o e).1, by rw [upd_ne (ne_of_none hp (he.bs x o e).2).symm]; exact (he.bs x o e).2⟩, he.bsz, he.funs,
      fun x hx => by rw [upd_ne (ne_of_none hp (he.frf x hx)).symm]; exact he.frf x hx, ok, he.bare⟩
  refine codeAny_mono (F.run A outer s _ args us vs _ E hr e1 hb hv (hs a b c)) fun r s' q => ?_
  cases r with
  | error e => exact q
  | ok fl =>
    cases fl with
    | next => exact q
    | brk => exact q
    | cont => exact q
    | ret u =>
      obtain ⟨v, H', os, bare, un, hok, r, a', b', c', hq, q⟩ := q
      refine ⟨_, _, os, bare, ?_, pool_close hok hq, r, q⟩
      have nn : ∀ {x}, H x = none → (upd H p (.lst [.int a, .int b, .int c])) x = none := fun {x} n => by rw [upd_ne (ne_of_none hp n).symm]; exact n
      refine ⟨fun x o e n => un.keep x o e (nn n), fun x o e n => un.slot x o e (nn n), fun x o e n hx => ?_, un.there, fun x xs e => ?_, fun x o u e => ?_, fun x t e => ?_⟩
      · rw [upd_ne (ne_of_none hp n).symm]
        exact un.free x o e (nn n) hx
      · have hb : x ≠ p := ne_of e hp (by intro z; cases z)
        rw [upd_ne hb]
        exact un.tups x xs (by rw [upd_ne hb]; exact e)
      · have hb : x ≠ p := ne_of e hp (by intro z; cases z)
        rw [upd_ne hb]
        exact un.frzs x o u (by rw [upd_ne hb]; exact e)
      · have hb : x ≠ p := ne_of e hp (by intro z; cases z)
        obtain ⟨m, e2⟩ := un.tbls x t (by rw [upd_ne hb]; exact e)
        exact ⟨m, by rw [upd_ne hb]; exact e2⟩
end

/-! ### a def of the text, its name; a def that may be called -/
structure DefAt (K : PySem.W.Frag) (mg : Str → Option Value) (x : Str) (st : Stmt) : Prop where
  ex : ∃ (f : Addr) (fd : FuncData), Fun K x x st f fd ∧ mg x = some (.ref f)
/-- all parameters are written, by position -/
def Bnd (x : Str) (st : Stmt) (ps : List Str) : Prop := ∀ (kV doc pm : Value) (an : Option Addr) (cdv ct : Value) (us : List Value), us.length = ps.length →
  bindArgs (PySem.W.fnOf x x (defArgs st) (defBody st) (defScope st) .none kV doc pm an cdv ct) ⟨us, []⟩ = pure (ps.zip us)
/-- n by position, the others by the names ks -/
def BndK (x : Str) (st : Stmt) (ps : List Str) (n : Nat) (ks : List Str) (g : {α : Type} → List α → List α → List α) : Prop :=
  ∀ (kV doc pm : Value) (an : Option Addr) (cdv ct : Value) (us ws : List Value), us.length = n → ws.length = ks.length →
  bindArgs (PySem.W.fnOf x x (defArgs st) (defBody st) (defScope st) .none kV doc pm an cdv ct) ⟨us, ks.zip ws⟩ = pure (ps.zip (g us ws))
structure Cl (P : Program) (w : World) (K : PySem.W.Frag) (mg : Str → Option Value) (base : Heap) (CX : CXT) (k : Nat) (x : Str) (st : Stmt) (ps : List Str) (sp : Sp) : Prop where
  ex : ∃ (f : Addr) (fd : FuncData), Fun K x x st f fd ∧ FnOk P w K mg base CX k f fd ps sp ∧ mg x = some (.ref f)
section
variable {P : Program} {w : World} {K : PySem.W.Frag} {mg : Str → Option Value} {base : Heap} {k : Nat} {x : Str} {st : Stmt} {ps N : List Str} {sp sp1 : Sp}
theorem cl_of (D : DefAt K mg x st) (S : FnScope N ps (defScope st)) (len : ∀ vs H Q E, sp vs H Q E → vs.length = ps.length)
    (hbody : ∀ (f : Addr) (cdv : Value) (A : Around) (outer : List Env) (s : Shared) (H : Hp) (vs : List V) (Q : VK) (E : XK), Room k (A.deeper (envOfC x (defScope st) s.heap.objs.size f cdv)) → sp vs H Q E →
      ∃ t, PSs (cxOf CX0 P w K mg base N x (defScope st) f cdv A outer s H E).nox (defBody st) t ∧ t { nx := fun _ H' => Q .non H', rt := Q } (start N vs) H) : Cl P w K mg base CX0 (k + 1) x st ps sp := by
  obtain ⟨f, fd, F, m⟩ := D.ex
  exact ⟨f, fd, F, F.ok S len (hbody f), m⟩
theorem Cl.pool (c : Cl P w K mg base CX0 k x st ps sp1)
    (h : ∀ vs H Q E, sp vs H Q E → vs.length = ps.length ∧ ∃ p, Pool H p ∧ ∀ a b c : Int, sp1 vs (upd H p (.lst [.int a, .int b, .int c])) (fun v H' => ∃ a b c : Int, H' p = some (.lst [.int a, .int b, .int c]) ∧ Q v (upd H' p (.ext (poolP p)))) E) :
    Cl P w K mg base CX0 k x st ps sp := by
  obtain ⟨f, fd, F, o, m⟩ := c.ex
  exact ⟨f, fd, F, fn_pool o h, m⟩
theorem Cl.newpool (c : Cl P w K mg base CX0 k x st ps sp1)
    (h : ∀ vs H Q E, sp vs H Q E → sp1 vs H (fun v H' => ∃ p a b c, v = .ref p ∧ H p = none ∧ H' p = some (.lst [.int a, .int b, .int c]) ∧ Q v (upd H' p (.ext (poolP p)))) E) :
    Cl P w K mg base CX0 k x st ps sp := by
  obtain ⟨f, fd, F, o, m⟩ := c.ex
  exact ⟨f, fd, F, fn_newpool o h, m⟩
theorem Cl.imp {CX : CXT} (c : Cl P w K mg base CX k x st ps sp) (h : ∀ vs H Q E, sp1 vs H Q E → sp vs H Q E) : Cl P w K mg base CX k x st ps sp1 := by
  obtain ⟨f, fd, F, o, m⟩ := c.ex
  exact ⟨f, fd, F, o.imp h, m⟩
end
section
variable {X : Cx} {CX : CXT} {k j n : Nat} {x : Str} {st : Stmt} {sp : Sp} {ps ks : List Str} {p pos : Pos} {e : Expr} {es : List Expr} {kws : List Keyword} {t tk : TA} {E : XK}
/-- f(a, ..): all parameters by position -/
theorem pe_cl (c : Cl X.prog X.w X.K X.mg X.base CX k x st ps sp) (b : Bnd x st ps) (hr : Room j X.A) (hk : k ≤ j) (hg : Gl X x) (hx : Passes CX X E) (ha : PA X (e :: es) t)
    (hdb : (x == ("__debug__" : Str)) = false := by decide) (he : starEach (e :: es) X.env = (false, eval e X.env) :: starEach es X.env := by rfl) (hpl : (backTo pos (starEach es X.env)).any (·.1) = false := by rfl) :
    PE X (.Call (.Name x p) (e :: es) [] pos) (tCall sp [] E t) := by
  obtain ⟨f, fd, F, o, m⟩ := c.ex
  exact pe_call o (hr.mono hk) hg m F.kp (F.binds b) .nil hx ha hdb he hpl
theorem kbn_of {K : PySem.W.Frag} {f : Addr} {fd : FuncData} {g : {α : Type} → List α → List α → List α} (F : Fun K x x st f fd) (b : BndK x st ps n ks g)
    (hrel : ∀ {vs zs : List V} {us ws : List Value}, Vals vs us → Vals zs ws → Vals (g vs zs) (g us ws)) : KBn K fd ps n ks (fun us ws => g us ws) (fun vs zs => g vs zs) := by
  obtain ⟨oc, od, kV, doc, pm, an, cdv, ct, osl, rfl, lk, hcd⟩ := F.ex
  exact ⟨fun s us ws _ h1 h2 => .of_eq (b kV doc pm an cdv ct us ws h1 h2), hrel⟩
/-- f(a, .., k = v, ..): all parameters written -/
theorem pe_clk {g : {α : Type} → List α → List α → List α} (c : Cl X.prog X.w X.K X.mg X.base CX k x st ps sp) (b : BndK x st ps n ks g)
    (hrel : ∀ {vs zs : List V} {us ws : List Value}, Vals vs us → Vals zs ws → Vals (g vs zs) (g us ws))
    (hr : Room j X.A) (hk : k ≤ j) (hg : Gl X x) (hx : Passes CX X E) (ha : PA X (e :: es) t) (hkw : PK X kws tk) (hall : (backToKw pos (keywordEach kws X.env)).all (·.1.isSome) = true := by rfl)
    (hks : (backToKw pos (keywordEach kws X.env)).filterMap (·.1) = ks := by rfl) (hdb : (x == ("__debug__" : Str)) = false := by decide) (he : starEach (e :: es) X.env = (false, eval e X.env) :: starEach es X.env := by rfl)
    (hpl : ((backTo pos (starEach (e :: es) X.env)).any (·.1) || (backToKw pos (keywordEach kws X.env)).any (·.1.isNone)) = false := by rfl) :
    PE X (.Call (.Name x p) (e :: es) kws pos) (tCallN n ks.length sp g E t tk) := by
  obtain ⟨f, fd, F, o, m⟩ := c.ex
  exact pe_callN o (hr.mono hk) hg m F.kp (kbn_of F b hrel) hx ha hkw hall hks hdb he hpl
/-- f(k = v, ..): all by name -/
theorem pe_clk0 {g : {α : Type} → List α → List α → List α} (c : Cl X.prog X.w X.K X.mg X.base CX k x st ps sp) (b : BndK x st ps 0 ks g)
    (hrel : ∀ {vs zs : List V} {us ws : List Value}, Vals vs us → Vals zs ws → Vals (g vs zs) (g us ws))
    (hr : Room j X.A) (hk : k ≤ j) (hg : Gl X x) (hx : Passes CX X E) (hkw : PK X kws tk) (hall : (backToKw pos (keywordEach kws X.env)).all (·.1.isSome) = true := by rfl)
    (hks : (backToKw pos (keywordEach kws X.env)).filterMap (·.1) = ks := by rfl) (hdb : (x == ("__debug__" : Str)) = false := by decide)
    (hpl : ((backTo pos (starEach [] X.env)).any (·.1) || (backToKw pos (keywordEach kws X.env)).any (·.1.isNone)) = false := by rfl) :
    PE X (.Call (.Name x p) [] kws pos) (tCallN 0 ks.length sp g E tNil tk) := by
  obtain ⟨f, fd, F, o, m⟩ := c.ex
  refine ⟨fun pins s σ H Q I h => ?_⟩
  refine wpAny_Call_Name_kw (ld_glob I hg m ?_ hdb)
  refine PySem.W.callWith_KW0 (h₀ := X.base) I.ok.mod.kin F.kp hall ?_ hpl
  refine thn (hkw.run pos pins s σ H _ I h) fun ws s2 ⟨zs, H2, I2, rz, l1, l2, q2⟩ => ⟨I2.kIn, ?_⟩
  rw [hks]
  exact run_fnN o (hr.mono hk) (kbn_of F b hrel) hx I2 .nil rz l1 l2 q2
/-- repr of a truth -/
theorem call_repr_bl : CallR X (.builtin "repr") (fun xs H Q => ∃ b, xs = [.bl b] ∧ Q (.str (if b then "True" else "False")) H) := by
  intro pins s σ H xs us Q I r h
  obtain ⟨b, rfl, q⟩ := h
  obtain ⟨u, rfl, rfl⟩ := vals1 r
  exact PySem.P.repr_of_bool ⟨.str _, H, I.tok _, ⟨_, rfl⟩, q⟩
end

section
variable {P : Program} {w : World} {K : PySem.W.Frag} {mg : Str → Option Value} {base : Heap} {k : Nat} {x : Str} {st : Stmt} {ps : List Str} {sp : Sp} {CX : CXT}
theorem defAt_mk {h : Heap} {f : Addr} {oc : Value} {od an : Option Addr} {osl : Array (Option Value)} {kV doc pm cdv ct : Value} (X : K.In h) (G : h.Ns mainGlobals mg) (a : PySem.W.nsIn K mainGlobals x = some (some (.ref f)))
    (l : K.lookup f = some ⟨oc, od, .func (PySem.W.fnOf x x (defArgs st) (defBody st) (defScope st) .none kV doc pm an cdv ct), osl⟩) (c : PySem.W.codeIn K cdv x = true) (kp : PySem.W.keepIn K (.ref f) = true) : DefAt K mg x st :=
  ⟨f, _, fun_mk l c kp, PySem.W.mg_of X G a⟩
/-- a def's object is one -/
theorem Cl.at {f : Addr} {fd : FuncData} (c : Cl P w K mg base CX k x st ps sp) (F : Fun K x x st f fd) (m : mg x = some (.ref f)) : FnOk P w K mg base CX k f fd ps sp := by
  obtain ⟨f', fd', F', o, m'⟩ := c.ex
  rw [m] at m'
  cases m'
  obtain ⟨oc, od, kV, doc, pm, an, cdv, ct, osl, rfl, lk, _⟩ := F.ex
  obtain ⟨oc', od', kV', doc', pm', an', cdv', ct', osl', rfl, lk', _⟩ := F'.ex
  have e := Option.some.inj (lk.symm.trans lk')
  injection e with _ _ e _
  injection e with e
  rw [e]
  exact o
end

/-! ### the law's draws -/
/-- what is handed back is told by P, all that stood stands -/
def Gets (Pv : V → Hp → Prop) (H : Hp) (Q : VK) : Prop := ∀ v H', Ex H H' → Pv v H' → Q v H'
def spCell (K : PySem.W.Frag) : Sp := fun vs H Q _ => ∃ (a : Addr) (ns : List Int) (i : Int), vs = [.ref a, .int i] ∧ SqL K H a (ns.map V.int) ∧ ns.length ≤ 63 ∧ 0 ≤ i ∧ i ≤ 63 ∧ ∀ (v : Int) H', Ex H H' → Q (.int v) H'
def spPool : Sp := fun vs H Q _ => ∃ i : Int, vs = [.int i] ∧ ∀ p H', H p = none → Ex H H' → Pool H' p → Q (.ref p) H'
def spDraw : Sp := fun vs H Q _ => ∃ (p : Addr) (m : Int), vs = [.ref p, .int m] ∧ Pool H p ∧ 0 < m ∧ m < 2 ^ 128 ∧ ∀ (v : Int) H', Ex H H' → 0 ≤ v → v < m → Q (.int v) H'
def spPool1 : Sp := fun vs H Q _ => ∃ i : Int, vs = [.int i] ∧ ∀ p H' (a b c : Int), H p = none → H' p = some (.lst [.int a, .int b, .int c]) → Ex H H' → Q (.ref p) H'
def spDraw1 : Sp := fun vs H Q _ => ∃ (p : Addr) (m a b c : Int), vs = [.ref p, .int m] ∧ H p = some (.lst [.int a, .int b, .int c]) ∧ 0 < m ∧ m < 2 ^ 128 ∧
  ∀ (v : Int) H' (a b c : Int), (∀ x o, x ≠ p → H x = some o → H' x = some o) → H' p = some (.lst [.int a, .int b, .int c]) → 0 ≤ v → v < m → Q (.int v) H'
theorem spPool_of : ∀ vs H Q E, spPool vs H Q E → spPool1 vs H (fun v H' => ∃ p a b c, v = .ref p ∧ H p = none ∧ H' p = some (.lst [.int a, .int b, .int c]) ∧ Q v (upd H' p (.ext (poolP p)))) E := by
  rintro vs H Q E ⟨i, rfl, q⟩
  refine ⟨i, rfl, fun p H' a b c hn hp e => ⟨p, a, b, c, rfl, hn, hp, q p _ hn (fun x o hx => ?_) upd_same⟩⟩
  rw [upd_ne (ne_of_none hx hn)]
  exact e x o hx
theorem spDraw_of : ∀ vs H Q E, spDraw vs H Q E → vs.length = 2 ∧ ∃ p, Pool H p ∧ ∀ a b c : Int, spDraw1 vs (upd H p (.lst [.int a, .int b, .int c])) (fun v H' => ∃ a b c : Int, H' p = some (.lst [.int a, .int b, .int c]) ∧ Q v (upd H' p (.ext (poolP p)))) E := by
  rintro vs H Q E ⟨p, m, rfl, hp, h0, h1, q⟩
  refine ⟨rfl, p, hp, fun a b c => ⟨p, m, a, b, c, rfl, upd_same, h0, h1, fun v H' a' b' c' k hq v0 v1 => ⟨a', b', c', hq, q v _ (fun x o hx => ?_) v0 v1⟩⟩⟩
  by_cases hb : x = p
  · subst hb
    rw [hp] at hx
    cases hx
    exact upd_same
  · rw [upd_ne hb]
    exact k x o hb (by rw [upd_ne hb]; exact hx)
theorem log2_lt {m : Int} (h0 : 0 < m) (h1 : m < 2 ^ 128) : m.natAbs.log2 < 9000 := by
  have e : m.natAbs < 2 ^ 128 := by omega
  have := (Nat.log2_lt (by omega : m.natAbs ≠ 0)).mpr e
  omega
theorem cdivp {i m : Int} (h0 : 0 < m) (h1 : m < 2 ^ 128) : CDivP i m := ⟨h0, PyProof.noPylong_of_log2 (log2_lt h0 h1)⟩
theorem atI_0 {a b c : V} : atI [a, b, c] 0 = some a := rfl
theorem atI_1 {a b c : V} : atI [a, b, c] 1 = some b := rfl
theorem atI_2 {a b c : V} : atI [a, b, c] 2 = some c := rfl
theorem ex_rdL {K : PySem.W.Frag} {H H' : Hp} {a : Addr} {xs : List V} (e : Ex H H') (h : SqL K H a xs) : SqL K H' a xs := ex_l e h
theorem line_ge : (100000 : Nat) ≤ sizeLine := by decide
/-! ### tests with two ways -/
theorem ifD {p A B : Prop} [Decidable p] (h1 : p → A) (h2 : ¬ p → B) : if decide p = true then A else B := by
  by_cases h : p
  · rw [if_pos (decide_eq_true h)]; exact h1 h
  · rw [if_neg (by simpa using h)]; exact h2 h
theorem ifN {p A B : Prop} [Decidable p] (h1 : ¬ p → A) (h2 : p → B) : if (!decide p) = true then A else B := by
  by_cases h : p
  · rw [if_neg (by simpa using h)]; exact h2 h
  · rw [if_pos (by simpa using h)]; exact h1 h
theorem ifB {b : Bool} {A B : Prop} (h1 : b = true → A) (h2 : b = false → B) : if b = true then A else B := by
  cases b with
  | true => exact h1 rfl
  | false => exact h2 rfl
theorem upd_new {H : Hp} {t a : Addr} {o u : HO} (ht : H t = none) (ha : H a = some o) : upd H t u a = some o := by
  rw [upd_ne (ne_of_none ha ht)]
  exact ha
theorem ex_at {H H' : Hp} {a : Addr} {o : HO} (e : Ex H H') (ha : H a = some o) : H' a = some o := e a o ha
/-- all but p stand -/
def But (p : Addr) (H H' : Hp) : Prop := ∀ x o, x ≠ p → H x = some o → H' x = some o
theorem But.refl {p : Addr} {H : Hp} : But p H H := fun _ _ _ h => h
theorem But.new {p t : Addr} {H H' : Hp} {o : HO} (b : But p H H') (ht : H' t = none) : But p H (upd H' t o) := fun x u n h => upd_new ht (b x u n h)
theorem But.mut {p : Addr} {H H' : Hp} {o : HO} (b : But p H H') : But p H (upd H' p o) := fun x u n h => by
  rw [upd_ne n]
  exact b x u n h
theorem cut_int {ns : List Int} {lo hi : Option Int} {i : Nat} {x : V} (h : (cutV (ns.map V.int) lo hi)[i]? = some x) : ∃ n, x = .int n := by
  have hm := List.mem_of_getElem? h
  have hm2 : x ∈ ns.map V.int := by
    unfold cutV at hm
    exact List.mem_of_mem_drop (List.mem_of_mem_take hm)
  obtain ⟨n, _, e⟩ := List.mem_map.mp hm2
  exact ⟨n, e.symm⟩

/-! ### kinds of values -/
inductive Kd (H : Hp) : V → String → Prop
  | non : Kd H .non "NoneType"
  | bl (b : Bool) : Kd H (.bl b) "bool"
  | int (i : Int) : Kd H (.int i) "int"
  | str (x : Str) : Kd H (.str x) "str"
  | lst {a : Addr} {xs : List V} (h : H a = some (.lst xs)) : Kd H (.ref a) "list"
  | tup {a : Addr} {xs : List V} (h : H a = some (.tup xs)) : Kd H (.ref a) "tuple"
  | fz {a : Addr} {o : Obj} {xs : List V} (h : H a = some (.frz o (.tup xs))) : Kd H (.ref a) "tuple"
  | dK {a : Addr} {kvs : List (Key × V)} (h : H a = some (.dK kvs)) : Kd H (.ref a) "dict"
def kinds : List String := ["NoneType", "bool", "int", "str", "list", "tuple", "dict"]
def isK (n c : String) : Bool := n == c || (n == "bool" && c == "int")
theorem Kd.mem {H : Hp} {v : V} {n : String} (k : Kd H v n) : n ∈ kinds := by cases k <;> decide
theorem Kd.ty {K : PySem.W.Frag} {H : Hp} {v : V} {n : String} (k : Kd H v n) : TyX K H v (.type n) := by
  cases k with
  | non => exact .base .non
  | bl b => exact .base (.bl b)
  | int i => exact .base (.int i)
  | str x => exact .base (.str x)
  | lst h => exact .base (.lst h)
  | tup h => exact .base (.tup h)
  | fz h => exact .fTuple h
  | dK h => exact .base (.dK h)
theorem kit_all : ∀ n ∈ kinds, ∀ c ∈ ["int", "bool", "tuple", "str", "list", "dict"], kitB n c = some (isK n c) := by decide +kernel
theorem kit_k {K : PySem.W.Frag} {H : Hp} {v : V} {n c : String} (k : Kd H v n) (hc : c ∈ ["int", "bool", "tuple", "str", "list", "dict"]) : PySem.W.kitOne K (.type n) (.type c) = some (isK n c) := kit_ty (kit_all n k.mem c hc)
theorem Kd.ex {H H' : Hp} {v : V} {n : String} (k : Kd H v n) (e : Ex H H') : Kd H' v n := by
  cases k with
  | non => exact .non
  | bl b => exact .bl b
  | int i => exact .int i
  | str x => exact .str x
  | lst h => exact .lst (e _ _ h)
  | tup h => exact .tup (e _ _ h)
  | fz h => exact .fz (e _ _ h)
  | dK h => exact .dK (e _ _ h)
/-- an integer (no truth) within bounds -/
def inB (lo hi : Int) : V → Bool
  | .int i => decide (lo ≤ i) && decide (i ≤ hi)
  | _ => false
def spInteger : Sp := fun vs H Q _ => ∃ v n, vs = [v] ∧ Kd H v n ∧ Q (.bl (n == "int")) H
def spBetween : Sp := fun vs H Q _ => ∃ v lo hi n, vs = [v, .int lo, .int hi] ∧ Kd H v n ∧ Q (.bl (inB lo hi v)) H
def spNumber : Sp := fun vs H Q _ => ∃ v n, vs = [v] ∧ Kd H v n ∧ Q (.bl (inB (-1000000000000) 1000000000000 v)) H
def rectL : List V → Bool
  | [a, b, c, d] => inB (-1000000000000) 1000000000000 a && inB (-1000000000000) 1000000000000 b && inB 0 1000000000000 c && inB 0 1000000000000 d
  | _ => false
/-- a value that is looked at as a rectangle: no tuple, or a tuple of values of known kinds -/
inductive Th (H : Hp) : V → Bool → Prop
  | other {v : V} {n : String} (k : Kd H v n) (h : n ≠ "tuple") : Th H v false
  | tup {a : Addr} {xs : List V} (h : H a = some (.tup xs)) (ks : ∀ x ∈ xs, ∃ n, Kd H x n) : Th H (.ref a) (rectL xs)
def spRect : Sp := fun vs H Q _ => ∃ v b, vs = [v] ∧ Th H v b ∧ Q (.bl b) H
theorem int_yes {H : Hp} {v : V} {n : String} (k : Kd H v n) (h : isK n "int" = true) : (n == "int") = !isK n "bool" := by
  have hm := k.mem
  exact (by decide : ∀ n ∈ kinds, isK n "int" = true → (n == "int") = !isK n "bool") n hm h
theorem int_no {n : String} (h : isK n "int" = false) : (n == "int") = false := by
  unfold isK at h
  cases e : n == "int" with
  | true => rw [e] at h; cases h
  | false => rfl
theorem Kd.of_int {H : Hp} {v : V} {n : String} (k : Kd H v n) (h : (n == "int") = true) : ∃ i, v = .int i := by
  cases k <;> first | exact ⟨_, rfl⟩ | exact absurd h (by decide)
theorem inB_no {H : Hp} {lo hi : Int} {v : V} {n : String} (k : Kd H v n) (h : (n == "int") = false) : inB lo hi v = false := by
  cases k <;> first | rfl | exact absurd h (by decide)
theorem isK_ne {n c : String} (h : n ≠ c) (hb : c ≠ "int") : isK n c = false := by
  unfold isK
  rw [beq_eq_false_iff_ne.mpr h, beq_eq_false_iff_ne.mpr hb]
  cases n == "bool" <;> rfl
theorem rectL_len {xs : List V} (h : xs.length ≠ 4) : rectL xs = false := by
  unfold rectL
  split
  · exact absurd rfl h
  · rfl
theorem four {xs : List V} (h : xs.length = 4) : ∃ a b c d, xs = [a, b, c, d] := match xs, h with
  | [a, b, c, d], _ => ⟨a, b, c, d, rfl⟩
theorem lenN {n m : Nat} : V.int (n : Int) = V.int (m : Int) ↔ n = m := by
  constructor
  · intro h
    injection h with h
    exact Int.ofNat_inj.mp h
  · intro h; rw [h]
theorem ifNt {b : Bool} {A B : Prop} (h1 : b = false → A) (h2 : b = true → B) : if (!b) = true then A else B := by
  cases b with
  | true => exact h2 rfl
  | false => exact h1 rfl

theorem sqlK {K K' : PySem.W.Frag} {H : Hp} {a : Addr} {xs : List V} (h : SqL K H a xs) (e : K' = K) : SqL K' H a xs := e ▸ h
theorem sqtK {K K' : PySem.W.Frag} {H : Hp} {a : Addr} {xs : List V} (h : SqT K H a xs) (e : K' = K) : SqT K' H a xs := e ▸ h
/-! ### list comprehensions, told item by item -/
/-- all but lists stand -/
def ExT (H H' : Hp) : Prop := ∀ a o, (∀ xs, o ≠ HO.lst xs) → H a = some o → H' a = some o
theorem Ex.exT {H H' : Hp} (e : Ex H H') : ExT H H' := fun a o _ h => e a o h
theorem ExT.wr {H : Hp} {D : Addr} {xs : List V} {o : HO} (h : H D = some (.lst xs)) : ExT H (upd H D o) := fun a u n ha => by
  rw [upd_ne (ne_of ha h (n xs))]
  exact ha
theorem ExT.trans {H H1 H2 : Hp} (a : ExT H H1) (b : ExT H1 H2) : ExT H H2 := fun x o n h => b x o n (a x o n h)
/-- what a turn makes: some item or none -/
abbrev PeT := Nat → Option V → Hp → Prop
def Mono (Pe : PeT) : Prop := ∀ i o H H', ExT H H' → Pe i o H → Pe i o H'
structure LcI (H1 : Hp) (D : Addr) (Pe : PeT) (i : Nat) (H : Hp) : Prop where
  new : H1 D = none
  ex : Ex H1 H
  its : ∃ os : List (Option V), os.length = i ∧ H D = some (.lst (os.filterMap id)) ∧ ∀ m o, os[m]? = some o → Pe m o H
section
variable {H1 H H4 : Hp} {D : Addr} {Pe : PeT} {i n : Nat} {y : V}
theorem LcI.start (h : H1 D = none) : LcI H1 D Pe 0 (upd H1 D (.lst [])) := ⟨h, Ex.new h, [], rfl, upd_same, fun m o e => by simp at e⟩
theorem LcI.more (I : LcI H1 D Pe i H) (mono : Mono Pe) (hi : i < 50000) (e : Ex H H4) (p : Pe i (some y) H4) :
    ∃ acc, H4 D = some (.lst acc) ∧ acc.length < sizeLine ∧ LcI H1 D Pe (i + 1) (upd H4 D (.lst (acc ++ [y]))) := by
  obtain ⟨hn, e1, os, hl, hD, hp⟩ := I
  have hD4 := e _ _ hD
  have hT : ExT H4 (upd H4 D (.lst (os.filterMap id ++ [y]))) := ExT.wr hD4
  refine ⟨_, hD4, ?_, hn, Ex.mut (e1.trans e) hn, os ++ [some y], ?_, ?_, fun m o hm => ?_⟩
  · have := List.length_filterMap_le id os
    exact Nat.lt_of_lt_of_le (by omega) line_ge
  · rw [List.length_append, hl]; rfl
  · rw [upd_same, List.filterMap_append]; rfl
  · by_cases hb : m < os.length
    · rw [List.getElem?_append_left hb] at hm
      exact mono _ _ _ _ ((Ex.exT e).trans hT) (hp m o hm)
    · rw [List.getElem?_append_right (Nat.le_of_not_lt hb)] at hm
      have h0 : m - os.length = 0 := by
        cases hz : m - os.length with
        | zero => rfl
        | succ k => rw [hz] at hm; simp at hm
      rw [h0] at hm
      have e2 : o = some y := (Option.some.inj hm).symm
      have e3 : m = i := by omega
      subst e2 e3
      exact mono _ _ _ _ hT p
theorem LcI.less (I : LcI H1 D Pe i H) (mono : Mono Pe) (e : Ex H H4) (p : Pe i none H4) : LcI H1 D Pe (i + 1) H4 := by
  obtain ⟨hn, e1, os, hl, hD, hp⟩ := I
  refine ⟨hn, e1.trans e, os ++ [none], ?_, ?_, fun m o hm => ?_⟩
  · rw [List.length_append, hl]; rfl
  · rw [List.filterMap_append, e _ _ hD]
    show _ = some (HO.lst (os.filterMap id ++ []))
    rw [List.append_nil]
  · by_cases hb : m < os.length
    · rw [List.getElem?_append_left hb] at hm
      exact mono _ _ _ _ (Ex.exT e) (hp m o hm)
    · rw [List.getElem?_append_right (Nat.le_of_not_lt hb)] at hm
      have h0 : m - os.length = 0 := by
        cases hz : m - os.length with
        | zero => rfl
        | succ k => rw [hz] at hm; simp at hm
      rw [h0] at hm
      have e2 : o = none := (Option.some.inj hm).symm
      have e3 : m = i := by omega
      subst e2 e3
      exact p
/-- a turn: from item x -/
def LcTurn (Pe : PeT) (H1 : Hp) (g : TG) (tt : TT) (te : TE) (vs : List Nat) (σ : L2.St) (i : Nat) (x : V) : Prop := ∀ H, Ex H1 H → ∀ (Q1 : VK) (Q2 : Hp → Prop), (∀ y H4, Ex H H4 → Pe i (some y) H4 → Q1 y H4) → (∀ H4, Ex H H4 → Pe i none H4 → Q2 H4) →
  g x (wipe σ vs) H fun σ2 H2 => wipe σ2 vs = wipe σ vs ∧ tt σ2 H2 fun b H3 => if b = true then te σ2 H3 Q1 else Q2 H3
variable {g : TG} {tt : TT} {te : TE} {vs : List Nat} {σ : L2.St} {Qd : Hp → Prop} {K : PySem.W.Frag} {a : Addr} {xs : List V}
theorem lcR (Pe : PeT) (mono : Mono Pe) (hD : H1 D = none) (hn : n ≤ 50000) (hs : ∀ i, i < n → LcTurn Pe H1 g tt te vs σ i (.int ((0 : Int) + i)))
    (hd : ∀ H' (os : List (Option V)), Ex H1 H' → os.length = n → H' D = some (.lst (os.filterMap id)) → (∀ i o, os[i]? = some o → Pe i o H') → Qd H') :
    ∃ W : Nat → Nat → Hp → Prop, (∃ m, W 0 m (upd H1 D (.lst []))) ∧ ∀ i m H, W i m H →
      ((Itr 0 n).stop i H ∧ Qd H) ∨ ((Itr 0 n).go i H ∧ ∃ Nx : Hp → Prop, (∀ H', Nx H' → ∃ m', m' < m ∧ W (i + 1) m' H') ∧ ∀ x H', (Itr 0 n).yld i H x H' → g x (wipe σ vs) H' fun σ2 H2 => wipe σ2 vs = wipe σ vs ∧ tt σ2 H2 fun b H3 =>
        if b = true then te σ2 H3 fun y H4 => ∃ acc, H4 D = some (.lst acc) ∧ acc.length < sizeLine ∧ Nx (upd H4 D (.lst (acc ++ [y]))) else Nx H3) :=
  lc_range (LcI H1 D Pe) (LcI.start hD) (fun i H hi I => hs i hi H I.ex _ _ (fun y H4 e p => I.more mono (by omega) e p) (fun H4 e p => I.less mono e p))
    (fun H I => by obtain ⟨_, e, os, hl, h, p⟩ := I; exact hd H os e hl h p)
theorem lcL (Pe : PeT) (mono : Mono Pe) (hD : H1 D = none) (hx : SqL K H1 a xs) (hn : xs.length ≤ 50000) (hs : ∀ i x, xs[i]? = some x → LcTurn Pe H1 g tt te vs σ i x)
    (hd : ∀ H' (os : List (Option V)), Ex H1 H' → os.length = xs.length → H' D = some (.lst (os.filterMap id)) → (∀ i o, os[i]? = some o → Pe i o H') → Qd H') :
    ∃ W : Nat → Nat → Hp → Prop, (∃ m, W 0 m (upd H1 D (.lst []))) ∧ ∀ i m H, W i m H →
      ((Itl K a).stop i H ∧ Qd H) ∨ ((Itl K a).go i H ∧ ∃ Nx : Hp → Prop, (∀ H', Nx H' → ∃ m', m' < m ∧ W (i + 1) m' H') ∧ ∀ x H', (Itl K a).yld i H x H' → g x (wipe σ vs) H' fun σ2 H2 => wipe σ2 vs = wipe σ vs ∧ tt σ2 H2 fun b H3 =>
        if b = true then te σ2 H3 fun y H4 => ∃ acc, H4 D = some (.lst acc) ∧ acc.length < sizeLine ∧ Nx (upd H4 D (.lst (acc ++ [y]))) else Nx H3) :=
  lc_list (LcI H1 D Pe) (LcI.start hD) (fun i H _ I => ex_l I.ex hx) (fun i x H hi I => hs i x hi H I.ex _ _ (fun y H4 e p => I.more mono (by have := (List.getElem?_eq_some_iff.mp hi).1; omega) e p) (fun H4 e p => I.less mono e p))
    (fun H I => by obtain ⟨_, e, os, hl, h, p⟩ := I; exact hd H os e hl h p)
theorem lcT (Pe : PeT) (mono : Mono Pe) (hD : H1 D = none) (hx : SqT K H1 a xs) (hn : xs.length ≤ 50000) (hs : ∀ i x, xs[i]? = some x → LcTurn Pe H1 g tt te vs σ i x)
    (hd : ∀ H' (os : List (Option V)), Ex H1 H' → os.length = xs.length → H' D = some (.lst (os.filterMap id)) → (∀ i o, os[i]? = some o → Pe i o H') → Qd H') :
    ∃ W : Nat → Nat → Hp → Prop, (∃ m, W 0 m (upd H1 D (.lst []))) ∧ ∀ i m H, W i m H →
      ((Itt K a).stop i H ∧ Qd H) ∨ ((Itt K a).go i H ∧ ∃ Nx : Hp → Prop, (∀ H', Nx H' → ∃ m', m' < m ∧ W (i + 1) m' H') ∧ ∀ x H', (Itt K a).yld i H x H' → g x (wipe σ vs) H' fun σ2 H2 => wipe σ2 vs = wipe σ vs ∧ tt σ2 H2 fun b H3 =>
        if b = true then te σ2 H3 fun y H4 => ∃ acc, H4 D = some (.lst acc) ∧ acc.length < sizeLine ∧ Nx (upd H4 D (.lst (acc ++ [y]))) else Nx H3) :=
  lc_tup (LcI H1 D Pe) (LcI.start hD) (fun i H _ I => ex_t I.ex hx) (fun i x H hi I => hs i x hi H I.ex _ _ (fun y H4 e p => I.more mono (by have := (List.getElem?_eq_some_iff.mp hi).1; omega) e p) (fun H4 e p => I.less mono e p))
    (fun H I => by obtain ⟨_, e, os, hl, h, p⟩ := I; exact hd H os e hl h p)
end
/-- every turn makes an item: Pf tells it -/
def All (Pf : Nat → V → Hp → Prop) : PeT := fun i o H => ∃ y, o = some y ∧ Pf i y H
theorem All.list {Pf : Nat → V → Hp → Prop} {H : Hp} : ∀ {os : List (Option V)} {k : Nat}, (∀ i o, os[i]? = some o → All Pf (k + i) o H) → ∃ ys : List V, os.filterMap id = ys ∧ ys.length = os.length ∧ ∀ i y, ys[i]? = some y → Pf (k + i) y H
  | [], _, _ => ⟨[], rfl, rfl, fun i y e => by simp at e⟩
  | o :: os, k, h => by
    obtain ⟨y, rfl, p⟩ := h 0 o rfl
    obtain ⟨ys, e1, e2, e3⟩ := All.list (os := os) (k := k + 1) (fun i o e => by
      have := h (i + 1) o e
      rwa [show k + (i + 1) = k + 1 + i by omega] at this)
    refine ⟨y :: ys, by rw [← e1]; rfl, by rw [List.length_cons, List.length_cons, e2], fun i z e => ?_⟩
    cases i with
    | zero =>
      have : y = z := Option.some.inj e
      subst this
      exact p
    | succ i =>
      have := e3 i z e
      rwa [show k + (i + 1) = k + 1 + i by omega]
theorem All.end {Pf : Nat → V → Hp → Prop} {H : Hp} {os : List (Option V)} (h : ∀ i o, os[i]? = some o → All Pf i o H) : ∃ ys : List V, os.filterMap id = ys ∧ ys.length = os.length ∧ ∀ i y, ys[i]? = some y → Pf i y H := by
  obtain ⟨ys, a, b, c⟩ := All.list (k := 0) (fun i o e => by rw [Nat.zero_add]; exact h i o e)
  exact ⟨ys, a, b, fun i y e => by have := c i y e; rwa [Nat.zero_add] at this⟩
theorem all_mono {Pf : Nat → V → Hp → Prop} (h : ∀ i v H H', ExT H H' → Pf i v H → Pf i v H') : Mono (All Pf) := fun i o H H' e ⟨y, a, b⟩ => ⟨y, a, h i y H H' e b⟩
theorem Kd.up {H H' : Hp} {v : V} {n : String} (e : Ex H H') (k : Kd H v n) : Kd H' v n := k.ex e
theorem Kd.new {H : Hp} {t : Addr} {o : HO} {v : V} {n : String} (h : H t = none) (k : Kd H v n) : Kd (upd H t o) v n := k.ex (Ex.new h)
theorem atI_in {xs : List V} {d : Int} (h0 : 0 ≤ d) (h1 : d < xs.length) : ∃ v, v ∈ xs ∧ atI xs d = some v := by
  obtain ⟨j, rfl⟩ := Int.eq_ofNat_of_zero_le h0
  have hj : j < xs.length := by omega
  exact ⟨xs[j], List.getElem_mem hj, atI_nat (List.getElem?_eq_getElem hj)⟩
theorem Th.up {H H' : Hp} {v : V} {b : Bool} (e : Ex H H') (k : Th H v b) : Th H' v b := by
  cases k with
  | other k h => exact .other (k.ex e) h
  | tup h ks => exact .tup (e _ _ h) fun x hx => let ⟨n, k⟩ := ks x hx; ⟨n, k.ex e⟩
theorem Th.kd {H : Hp} {v : V} {b : Bool} (k : Th H v b) : ∃ n, Kd H v n := by
  cases k with
  | other k h => exact ⟨_, k⟩
  | tup h ks => exact ⟨_, .tup h⟩
theorem Pool.up {H H' : Hp} {p : Addr} (e : Ex H H') (h : Pool H p) : Pool H' p := e _ _ h
theorem Pool.new {H : Hp} {t p : Addr} {o : HO} (ht : H t = none) (h : Pool H p) : Pool (upd H t o) p := upd_new ht h
theorem Th.new {H : Hp} {t : Addr} {o : HO} {v : V} {b : Bool} (ht : H t = none) (k : Th H v b) : Th (upd H t o) v b := k.up (Ex.new ht)
theorem ix_in {K : PySem.W.Frag} {H : Hp} {p : Addr} {xs : List V} {d : Int} {Q : VK} (h : SqL K H p xs ∨ SqT K H p xs) (h0 : 0 ≤ d) (h1 : d < xs.length) (q : ∀ v, v ∈ xs → Q v H) : rIx K (.ref p) (.int d) H Q := by
  obtain ⟨v, hv, ha⟩ := atI_in h0 h1
  rcases h with h | h
  · exact .inl ⟨p, xs, d, v, rfl, rfl, h, ha, q v hv⟩
  · exact .inr (.inl ⟨p, xs, d, v, rfl, rfl, h, ha, q v hv⟩)
/-- a heap without one object -/
def Minus (H : Hp) (p : Addr) : Hp := fun a => if a = p then none else H a
theorem minus_at {H : Hp} {p a : Addr} {o : HO} (n : a ≠ p) (h : H a = some o) : Minus H p a = some o := by
  unfold Minus
  rw [if_neg n]
  exact h
theorem minus_ex {H H' : Hp} {p : Addr} (b : But p H H') : Ex (Minus H p) H' := fun a o h => by
  unfold Minus at h
  by_cases n : a = p
  · rw [if_pos n] at h; cases h
  · rw [if_neg n] at h; exact b a o n h
theorem minus_lo {H : Hp} {p : Addr} : Ex (Minus H p) H := minus_ex But.refl
theorem ne_fresh {H : Hp} {a p : Addr} {o : HO} (h : H a = none) (hp : H p = some o) : a ≠ p := (ne_of_none hp h).symm
theorem But.ex {p : Addr} {H H0 H' : Hp} (e : Ex H H0) (h : H p = none) (b : But p H0 H') : Ex H H' := fun a o ha => b a o (ne_of_none ha h) (e a o ha)
theorem But.up {p : Addr} {H H1 H2 : Hp} (b : But p H H1) (e : Ex H1 H2) : But p H H2 := fun a o n h => e a o (b a o n h)
theorem mem_cut {xs : List V} {lo hi : Option Int} {x : V} (h : x ∈ cutV xs lo hi) : x ∈ xs := by
  unfold cutV at h
  exact List.mem_of_mem_drop (List.mem_of_mem_take h)
theorem mem_set {xs : List V} {j : Nat} {x y : V} (h : x ∈ xs.set j y) : x ∈ xs ∨ x = y := List.mem_or_eq_of_mem_set h
theorem ixN_in {n : Nat} {d : Int} (h0 : 0 ≤ d) (h1 : d < n) : ixN n d = some d.toNat := by
  unfold ixN
  rw [if_pos h0, if_pos h1]
/-- o[d] = v in bounds -/
theorem set_in {H : Hp} {p : Addr} {xs : List V} {d : Int} {v : V} {Q : Hp → Prop} (h : H p = some (.lst xs)) (h0 : 0 ≤ d) (h1 : d < xs.length) (q : Q (upd H p (.lst (xs.set d.toNat v)))) : rSetL (.ref p) (.int d) v H Q :=
  ⟨p, xs, d, d.toNat, rfl, rfl, h, ixN_in h0 h1, q⟩
theorem newEx {H H' : Hp} {t : Addr} {o : HO} (h : upd H t o = H') (n : H t = none) : Ex H H' := by rw [← h]; exact Ex.new n
theorem newAt {H H' : Hp} {t : Addr} {o : HO} (h : upd H t o = H') : H' t = some o := by rw [← h]; exact upd_same
theorem mutBut {H H' : Hp} {t : Addr} {o : HO} (h : upd H t o = H') : But t H H' := by rw [← h]; exact But.mut But.refl
theorem but_of {p : Addr} {H H' : Hp} (e : Ex H H') : But p H H' := fun x o _ h => e x o h
theorem law_fd {K : PySem.W.Frag} {mg : Str → Option Value} {x p : Str} {st : Stmt} {fa : Addr} (D : DefAt K mg x st) (b : Bnd x st [p]) (hfa : mg x = some (.ref fa)) : ∃ fd, Fun K x x st fa fd ∧ ∀ (s : Shared) (u : Value), BindsTo s fd ⟨[u], []⟩ [(p, u)] := by
  obtain ⟨f, fd, F, m⟩ := D.ex
  rw [m] at hfa
  cases hfa
  refine ⟨fd, F, ?_⟩
  obtain ⟨oc, od, kV, doc, pm, an, cdv, ct, osl, rfl, lk, hcd⟩ := F.ex
  exact fun s u => .of_eq (b kV doc pm an cdv ct [u] rfl)
/-- the law's promise -/
def spLaw (K : PySem.W.Frag) : Sp := fun vs H Q _ => ∃ (a : Addr) (ns : List Int), vs = [.ref a] ∧ SqL K H a (ns.map V.int) ∧ ns.length ≤ 63 ∧ ∀ H', Q (.bl true) H'
/-- a check of the law: whatever the pool gives, True -/
def spCheck : Sp := fun vs H Q _ => ∃ p, vs = [.ref p] ∧ Pool H p ∧ ∀ H', Ex H H' → Q (.bl true) H'
theorem all_true {ys : List V} (h : ∀ y ∈ ys, y = V.bl true) : ∃ bs : List Bool, ys = bs.map V.bl ∧ bs.all id = true := by
  refine ⟨List.replicate ys.length true, ?_, by simp⟩
  rw [List.map_replicate]
  exact List.eq_replicate_iff.mpr ⟨rfl, h⟩
theorem rep2 {H : Hp} {l : Addr} {xs : List V} {Q : VK} (h : H l = some (.lst xs)) (hl : xs.length ≤ 1000) (q : ∀ p, H p = none → Q (.ref p) (upd H p (.lst (xs ++ xs)))) : rRep (.ref l) (.int 2) H Q := by
  refine ⟨l, 2, xs, rfl, rfl, h, by decide, by decide, ?_, fun p n => ?_⟩
  · exact Nat.le_trans (by show xs.length * 2 ≤ 100000; omega) line_ge
  · have e : (List.replicate (2 : Int).toNat xs).flatten = xs ++ xs := by
      show xs ++ (xs ++ []) = _
      rw [List.append_nil]
    first
      | (rw [e]; exact q p n)
      | exact q p n
theorem const_mk {K : PySem.W.Frag} {h : Heap} {mg : Str → Option Value} {x : Str} {u : Value} {v : V} (X : K.In h) (G : h.Ns mainGlobals mg) (a : PySem.W.nsIn K mainGlobals x = some (some u)) (r : RelV v u) : ∃ u, mg x = some u ∧ RelV v u := ⟨u, PySem.W.mg_of X G a, r⟩
end Lw
/-! Tuples that know their object; dict(tuple of pairs); sorted(d.items()) of ints. -/
namespace Lw
open PySem PySem.Spec PyProof.Rows L2 Evl

/-- a tuple whose object has no dict of its own -/
def Tu (H : Hp) (p : Addr) (xs : List V) : Prop := ∃ o : Obj, o.dict = none ∧ H p = some (.frz o (.tup xs))
abbrev RowAt (H : Hp) (q : Addr) (p : Int × Int) : Prop := H q = some (.tup [.int p.1, .int p.2])
abbrev Rows (H : Hp) : List Addr → List (Int × Int) → Prop := Paired (RowAt H)
def kvI (ps : List (Int × Int)) : List (Key × V) := ps.map fun p => (.inl p.1, .int p.2)
theorem Tu.up {H H' : Hp} {p : Addr} {xs : List V} (e : Ex H H') (t : Tu H p xs) : Tu H' p xs := let ⟨o, a, b⟩ := t; ⟨o, a, e _ _ b⟩
theorem RowAt.up {H H' : Hp} {q : Addr} {p : Int × Int} (h : RowAt H q p) (e : Ex H H') : RowAt H' q p := e _ _ h
theorem Tu.sq {K : PySem.W.Frag} {H : Hp} {p : Addr} {xs : List V} (t : Tu H p xs) : SqT K H p xs := let ⟨o, _, b⟩ := t; .inl (.inr ⟨o, b⟩)
theorem Rows.up {H H' : Hp} (e : Ex H H') : ∀ {qs : List Addr} {ps : List (Int × Int)}, Rows H qs ps → Rows H' qs ps
  | _, _, .nil => .nil
  | _, _, .cons h t => .cons (e _ _ h) (Rows.up e t)
theorem u1 {a b : Nat} (h : a + 64 < b) : a + 1 < b := by omega
/-- a statement that is never reached -/
theorem ps_dead {X : Cx} {st : Stmt} : PS X st (fun _ _ _ => False) := ⟨fun _ _ _ _ _ _ h => h.elim⟩
section
variable {X : Cx} {es : List Expr} {pos : Pos} {t : TA}
/-- tuple(xs), xs a list -/
theorem cr_tupF : CallR X (.type "tuple") (fun as H Q => ∃ p ys, as = [.ref p] ∧ SqL X.K H p ys ∧ ∀ l o, H l = none → o.dict = none → Q (.ref l) (upd H l (.frz o (.tup ys)))) := by
  intro pins s σ H as us Q I r hq
  obtain ⟨p, ys, rfl, hl, q⟩ := hq
  obtain rfl := Vals.ref1 r
  obtain ⟨its, rv, pl, hz⟩ := I.list hl
  refine call_tuple_list pl.isList (fun g kp => ?_) (by rw [List.size_toArray, ← rv.length]; exact hz)
  have J : Inv X pins σ H { s with heap := g } := I.kept (t' := s.toks) kp
  have hn := J.hok.fresh (Nat.le_refl _)
  refine ⟨.ref _, _, J.laid (t' := s.toks) (fun b o e => Heap.get?_push_of_some _ e) (Nat.le_refl _) (o := .frz { cls := .type "tuple", data := .seq its.toArray } (.tup ys)) ⟨Heap.get?_push_size _ rfl, hz, its, rv, IsTup.new _ _⟩, rfl, q _ _ hn rfl⟩
def tTupF (t : TA) : TE := fun σ H Q => t σ H fun xs H1 => xs.length ≤ sizeLine ∧ ∀ p o, H1 p = none → o.dict = none → Q (.ref p) (upd H1 p (.frz o (.tup xs)))
/-- (a, ..) -/
theorem pe_tupF {x1} (h : PA X es t) : PE X (.Tuple es x1 pos) (tTupF t) := by
  refine ⟨fun pins s σ H Q I hq => ?_⟩
  refine wpAny_Tuple_spliced (thn (h.run pos pins s σ H _ I hq) fun us s1 hh => ?_)
  obtain ⟨xs, H1, J, r, z, q⟩ := hh
  refine ⟨by rw [← r.length]; exact z, ?_⟩
  have hn := J.hok.fresh (Nat.le_refl _)
  refine ⟨.ref _, _, J.laid (t' := s1.toks) (fun b u e => Heap.get?_push_of_some _ e) (Nat.le_refl _) (o := .frz { cls := .type "tuple", data := .seq us.toArray } (.tup xs)) ⟨Heap.get?_push_size _ rfl, z, us, r, ⟨_, Heap.get?_push_size _ rfl, rfl, _, rfl⟩⟩, rfl, q _ _ hn rfl⟩
theorem rows_of {pins : List (Addr × Obj)} {σ : L2.St} {H : Hp} {s : Shared} (I : Inv X pins σ H s) : ∀ {qs : List Addr} {ps : List (Int × Int)}, Rows H qs ps →
    ∃ (vps : List (Value × Value)) (prs : List (Key × Value)), Paired (fun (q : Addr) (kv : Value × Value) => IsTup s.heap q #[kv.1, kv.2]) qs vps ∧ KV (kvI ps) prs ∧
      Paired (fun (pr : Key × Value) (kv : Value × Value) => keyIs pr.1 kv.1 = true ∧ pr.2 = kv.2) prs vps
  | _, _, .nil => ⟨[], [], .nil, .nil, .nil⟩
  | _, _, .cons (a := q) (b := p) h t => by
    obtain ⟨vps, prs, a, b, c⟩ := rows_of I t
    obtain ⟨its, rv, ht, _⟩ := I.tuple (SqT.of h)
    obtain ⟨u, y, rfl, ru, ry⟩ := vals2 rv
    obtain ⟨k, rfl⟩ := ru
    exact ⟨(.int p.1 k, y) :: vps, (.inl p.1, y) :: prs, .cons ht a, .cons ⟨rfl, ry⟩ b, .cons ⟨keyIs_int _ _, rfl⟩ c⟩
/-- dict(t), t a tuple of pairs of ints -/
theorem cr_dictT (hc : X.calm = true) : CallR X (.type "dict") (fun as H Q => ∃ a qs ps, as = [.ref a] ∧ Tu H a (qs.map V.ref) ∧ Rows H qs ps ∧ ∀ l, H l = none → Q (.ref l) (upd H l (.dK (mergeK [] (kvI ps))))) := by
  intro pins s σ H as us Q I r hq
  obtain ⟨a, qs, ps, rfl, ⟨o, hd, ho⟩, hr, q⟩ := hq
  obtain rfl := Vals.ref1 r
  obtain ⟨go, hz, its, rv, o', ho', hcl, n, hdat⟩ := I.hok a _ ho
  obtain rfl : o = o' := Option.some.inj (go.symm.trans ho')
  obtain rfl := refs_at rv
  rw [List.length_map] at hz
  obtain ⟨vps, prs, h1, h2, h3⟩ := rows_of I hr
  have l1 : qs.length = vps.length := Paired.length h1
  have l3 : prs.length = vps.length := Paired.length h3
  have key : ∀ j k v, vps[j]? = some (k, v) → ∃ b, qs[j]? = some b ∧ IsTup s.heap b #[k, v] := fun j k v e => by
    obtain ⟨b, hb, ht⟩ := L2.DX.pget h1 e
    exact ⟨b, hb, ht⟩
  refine PySem.call_dict_pairs (knd := mixKind X.prog X.w) (kvs := prs) (PairArg.tuple a (qs.map Value.ref).toArray (fun j => qs.getD j 0) vps) (I.ok.hd hc) ⟨⟨o, n, go, hcl, hd, hdat⟩, ?_, fun j k v e => ?_⟩ ⟨l3, fun i k v e => ?_⟩ (by omega) fun h' tk dd hk => ?_
  · rw [List.size_toArray, List.length_map]; exact l1
  · obtain ⟨b, hb, ht⟩ := key j k v e
    have eb : qs.getD j 0 = b := by rw [List.getD_eq_getElem?_getD, hb]; rfl
    refine ⟨?_, .inl ?_⟩
    · show (qs.map Value.ref).toArray[j]? = some (.ref (qs.getD j 0))
      rw [eb, List.getElem?_toArray, List.getElem?_map, hb]; rfl
    · show s.heap.IsTuple (qs.getD j 0) #[k, v]
      rw [eb]; exact ht
  · obtain ⟨⟨k', v'⟩, hp, hk, hv⟩ := L2.DX.pget h3 e
    exact ⟨k', by rw [hp, show v' = v from hv], hk⟩
  · have hm : (s.heap.objs.size == sysModules) = false := beq_eq_false_iff_ne.mpr (Nat.ne_of_gt I.big)
    have hlen : (mergeK [] (kvI ps)).length ≤ sizeLine := by
      refine Nat.le_trans (length_mergeK _ []) ?_
      rw [List.length_nil, Nat.zero_add, h2.length]
      omega
    exact ⟨.ref _, _, I.laid (t' := tk) (fun b u e => hk b u (fun z => nomatch z) e) (Nat.le_refl _) (o := .dK (mergeK [] (kvI ps))) ⟨hlen, hm, merged [] prs, KV.merge h2 .nil, dd⟩, rfl, q _ (I.hok.fresh (Nat.le_refl _))⟩
/-- the same context, one call deeper -/
theorem inA {pins : List (Addr × Obj)} {σ : L2.St} {H : Hp} {s : Shared} (I : Inv X pins σ H s) : Inv { X with A := X.A.in1 } pins σ H s := by
  obtain ⟨⟨a1, a2, a3, a4, a5, a6, a7, a8, a9, b1, b2, b3, b4, b5, b6, b7, b8, b9⟩, c1, c2, c3, c4, c5, c6, c7, c8, c9, d1⟩ := I
  exact ⟨⟨a1, a2, a3, a4, a5, a6, a7, a8, fun c => by show X.A.in1.handled = none; simpa using a9 c, b1, b2, b3, b4, b5, b6, b7, b8, b9⟩, c1, c2, c3, c4, c5, c6, c7, c8, c9, d1⟩
theorem outA {pins : List (Addr × Obj)} {σ : L2.St} {H : Hp} {s : Shared} (ok : X.Ok) (I : Inv { X with A := X.A.in1 } pins σ H s) : Inv X pins σ H s := by
  obtain ⟨_, c1, c2, c3, c4, c5, c6, c7, c8, c9, d1⟩ := I
  exact ⟨ok, c1, c2, c3, c4, c5, c6, c7, c8, c9, d1⟩
/-- d.items() -/
theorem mt_itemsK : MtR X "dict.items" (fun x as H Q => ∃ a kvs, x = .ref a ∧ as = [] ∧ H a = some (.dK kvs) ∧ ∀ p, H p = none → Q (.ref p) (upd H p (L2.DX.itemsO p a))) := by
  intro pins s σ H x as v us Q I rx rs hq
  obtain ⟨a, kvs, rfl, rfl, ha, q⟩ := hq
  cases rx
  cases rs
  obtain ⟨_, hd, vs, rel, o, es, ep, ho, hx, hdat, _⟩ := dk_of I.hok ha
  refine DT.callItems (es := es) (ep := ep) hd ⟨o, ho, hx, hdat⟩ ?_
  exact ⟨.ref _, _, I.laid (t' := s.toks) (fun b u e => Heap.get?_push_of_some _ e) (Nat.le_refl _) (L2.DX.itemsO_ok (Heap.get?_push_size _ rfl)), rfl, q _ (I.hok.fresh (Nat.le_refl _))⟩
theorem pairs_at {P : Program} {w : World} : ∀ {es : List DictEntry} {vs : List (Key × Value)} {kvs : List (Key × V)} {ps : List (Int × Int)} {j : Nat} {e : DictEntry}, Pairs (mixKind P w) es vs → KV kvs vs → kvs = kvI ps → es[j]? = some e →
    ∃ p t, ps[j]? = some p ∧ e.key = .int p.1 t ∧ RelV (.int p.2) e.val
  | _, _, _, _, j, e, .nil, _, _, h => by simp at h
  | _, _, _, [], _, _, .cons .., .cons .., hk, _ => by cases hk
  | _, _, _, p :: ps, 0, e, .cons h1 h2 t, .cons r1 r2, hk, h => by
    cases hk
    simp only [List.getElem?_cons_zero] at h
    cases h
    obtain ⟨r1, r3⟩ := r1
    rcases keyIs_shape (show keyIs _ _ = true from h1) with ⟨i, t, ek, ev⟩ | ⟨z, t, ek, ev⟩
    · rw [← r1] at ek
      cases ek
      exact ⟨p, t, rfl, ev, by rw [h2]; exact r3⟩
    · rw [← r1] at ek
      cases ek
  | _, _, _, p :: ps, j + 1, e, .cons h1 h2 t, .cons r1 r2, hk, h => by
    cases hk
    simp only [List.getElem?_cons_succ] at h
    obtain ⟨p', t', a, b, c⟩ := pairs_at t r2 rfl h
    exact ⟨p', t', by rw [List.getElem?_cons_succ]; exact a, b, c⟩
theorem rows_mk {H : Hp} : ∀ {as : List Addr} {ps : List (Int × Int)}, as.length = ps.length → (∀ (j : Nat) a, as[j]? = some a → ∃ p, ps[j]? = some p ∧ RowAt H a p) → Rows H as ps
  | [], [], _, _ => .nil
  | a :: as, p :: ps, hl, h => by
    refine .cons ?_ (rows_mk (by simpa using hl) fun j b e => ?_)
    · obtain ⟨p', e, r⟩ := h 0 a rfl
      cases e
      exact r
    · obtain ⟨p', e', r⟩ := h (j + 1) b e
      exact ⟨p', e', r⟩
  | [], _ :: _, hl, _ => by simp at hl
  | _ :: _, [], hl, _ => by simp at hl
def kOf (H : Hp) : V → Int × Int
  | .ref a => match H a with
    | some (.tup [.int x, .int y]) => (x, y)
    | _ => (0, 0)
  | _ => (0, 0)
theorem kOf_row {H : Hp} {a : Addr} {p : Int × Int} (h : RowAt H a p) : kOf H (.ref a) = p := by
  show (match H a with
    | some (.tup [.int x, .int y]) => (x, y)
    | _ => (0, 0)) = p
  rw [show H a = some (.tup [.int p.1, .int p.2]) from h]
def unref : V → Addr
  | .ref a => a
  | _ => 0
theorem rows_get {H : Hp} : ∀ {as : List Addr} {ps : List (Int × Int)}, Rows H as ps → ps = as.map fun a => kOf H (.ref a)
  | _, _, .nil => rfl
  | _, _, .cons h t => by rw [List.map_cons, kOf_row h, ← rows_get t]
theorem rows_mem {H : Hp} : ∀ {as : List Addr} {ps : List (Int × Int)}, Rows H as ps → ∀ a ∈ as, ∃ p, RowAt H a p
  | _, _, .cons h t, a, m => by
    rcases List.mem_cons.mp m with rfl | m
    · exact ⟨_, h⟩
    · exact rows_mem t a m
theorem rows_all {H : Hp} : ∀ {as : List Addr}, (∀ a ∈ as, ∃ p, RowAt H a p) → Rows H as (as.map fun a => kOf H (.ref a))
  | [], _ => .nil
  | a :: as, h => by
    obtain ⟨p, e⟩ := h a (by simp)
    exact .cons (by show RowAt H a (kOf H (.ref a)); rw [kOf_row e]; exact e) (rows_all fun b m => h b (List.mem_cons_of_mem _ m))
theorem rows_sub {H H' : Hp} : ∀ {as : List Addr} {ps : List (Int × Int)}, (∀ a ∈ as, ∀ o, H a = some o → H' a = some o) → Rows H as ps → Rows H' as ps
  | _, _, _, .nil => .nil
  | _, _, k, .cons h t => .cons (k _ (by simp) _ h) (rows_sub (fun a m => k a (List.mem_cons_of_mem _ m)) t)
theorem vals_refs : ∀ as : List Addr, Vals (as.map V.ref) (as.map Value.ref)
  | [] => .nil
  | _ :: as => .cons rfl (vals_refs as)
theorem rise_inj {as : List Nat} (h : as.Pairwise (· < ·)) {i j : Nat} {a : Nat} (hi : as[i]? = some a) (hj : as[j]? = some a) : i = j := by
  obtain ⟨li, ei⟩ := List.getElem?_eq_some_iff.mp hi
  obtain ⟨lj, ej⟩ := List.getElem?_eq_some_iff.mp hj
  have g := List.pairwise_iff_getElem.mp h
  by_cases c : i < j
  · have := g i j li lj c
    omega
  · by_cases c' : j < i
    · have := g j i lj li c'
      omega
    · omega
/-- a list of refs rearranged -/
theorem refs_perm {zs : List V} {as : List Addr} (h : zs.Perm (as.map V.ref)) : zs = (zs.map unref).map V.ref ∧ (zs.map unref).Perm as := by
  constructor
  · rw [List.map_map]
    refine (List.map_id zs).symm.trans (List.map_congr_left fun z hz => ?_)
    obtain ⟨a, _, rfl⟩ := List.mem_map.mp (h.mem_iff.mp hz)
    rfl
  · have e := h.map unref
    rw [List.map_map] at e
    exact e.trans (List.Perm.of_eq (List.map_id _))
/-- sorted(d.items()), keys and values ints -/
theorem cr_itemsS (hc : X.calm = true) : CallR X (.builtin "sorted") (fun as H Q => ∃ (v a : Addr) (ps : List (Int × Int)), as = [.ref v] ∧ H v = some (L2.DX.itemsO v a) ∧ H a = some (.dK (kvI ps)) ∧
    ∀ H' l (qs : List Addr) (rs : List (Int × Int)), Ex H H' → H' l = some (.lst (qs.map V.ref)) → Rows H' qs rs → rs.Perm ps → rs.Pairwise (fun p q => SrtO.lexB q p = false) → Q (.ref l) H') := by
  intro pins s σ H as us Q I r hq
  obtain ⟨v, a, ps, rfl, hv, ha, q⟩ := hq
  obtain rfl := Vals.ref1 r
  have view : s.heap.IsItemsView v a := (I.hok v _ hv).1
  obtain ⟨hz, hd, vs, rel, o, es, ep, ho, hx, hdat, hks, hps, hnd⟩ := dk_of I.hok ha
  have hn := hps.length
  rw [Array.length_toList] at hn
  have l1 : ps.length = vs.length := by rw [← rel.length]; exact (List.length_map _).symm
  have z1 : ps.length ≤ sizeLine := by rw [l1, ← rel.length]; exact hz
  refine DT.sortedI (es := es) (ep := ep) (I.ok.hd hc) view ⟨o, ho, hx, hdat⟩ (by omega) fun h' tk as hk hlt hl hG => ?_
  have lak : as.length = ps.length := by omega
  have nd : as.Nodup := hG.rise.imp fun h => Nat.ne_of_lt h
  have obj : ∀ (j : Nat) (b : Addr), as[j]? = some b → ∃ p k t, ps[j]? = some p ∧ RelV (.int p.2) t ∧ h'.get? b = some { cls := .type "tuple", data := .seq #[.int p.1 k, t] } := fun j b e => by
    obtain ⟨en, he, hg⟩ := hG.pairs j b e
    obtain ⟨p, k, ep, ek, ev⟩ := pairs_at hps rel rfl (by rw [← he]; exact Array.getElem?_toList)
    exact ⟨p, k, en.val, ep, ev, by rw [hg, ek]⟩
  have hob : (h'.push { cls := .type "list", data := .seq (as.map Value.ref).toArray }).get? h'.objs.size = some { cls := .type "list", data := .seq (as.map Value.ref).toArray } := Heap.get?_push_size _ rfl
  have old : ∀ b u, h'.get? b = some u → (h'.push { cls := .type "list", data := .seq (as.map Value.ref).toArray }).get? b = some u := fun b u e => Heap.get?_push_of_some _ e
  generalize hL : h'.objs.size = L at *
  generalize h'.push { cls := .type "list", data := .seq (as.map Value.ref).toArray } = g at *
  have J : Inv X pins σ (upd H L (.lst (as.map V.ref))) { s with heap := g, toks := tk } :=
    I.laid (t' := tk) (fun b u e => old b u (hk b u e)) (Nat.le_of_lt hlt) ⟨by rw [List.length_map, lak]; exact z1, as.map Value.ref, 0, vals_refs as, hob⟩
  have ltL : ∀ b ∈ as, b ≠ L := fun b hb => Nat.ne_of_lt (by rw [← hL]; exact hG.there hb)
  obtain ⟨H2, J2, up, hT⟩ := L2.DX.takeT (P := fun b vs => ∃ (j : Nat) (p : Int × Int), as[j]? = some b ∧ ps[j]? = some p ∧ vs = [.int p.1, .int p.2]) I as _ J nd fun b hb => by
    obtain ⟨j, hj⟩ := List.mem_iff_getElem?.mp hb
    obtain ⟨p, k, t, hp, rt, hg⟩ := obj j b hj
    have lb := hG.above b hb
    refine ⟨Nat.le_of_lt lb, by rw [upd_ne (ltL b hb)]; exact I.hok.fresh (Nat.le_of_lt lb), [.int p.1, .int p.2], ⟨j, p, hj, hp, rfl⟩, fun H2 => ?_⟩
    exact ⟨by show 2 ≤ sizeLine; decide, [.int p.1 k, t], .cons ⟨k, rfl⟩ (.cons rt .nil), _, old _ _ hg, rfl, 0, rfl⟩
  have rw2 : Rows H2 as ps := rows_mk lak fun j b e => by
    obtain ⟨vs', ⟨j', p, e1, e2, e3⟩, e4⟩ := hT b (List.mem_of_getElem? e)
    obtain rfl := rise_inj hG.rise e e1
    exact ⟨p, e2, by rw [e3] at e4; exact e4⟩
  have hs := mt_sortPO (X := { X with A := X.A.in1 }) pins _ σ H2 (.ref L) [] (.ref L) [] (fun _ H3 => ∃ zs, SrtO.Srtd (ltP (kOf H2)) zs ∧ SrtO.Stb (ltP (kOf H2)) zs (as.map V.ref) ∧ H3 = upd H2 L (.lst zs)) (inA J2) rfl .nil
    ⟨L, as.map V.ref, kOf H2, rfl, rfl, up _ _ upd_same, fun y hy => by
      obtain ⟨b, hb, rfl⟩ := List.mem_map.mp hy
      obtain ⟨p, hp⟩ := rows_mem rw2 b hb
      exact ⟨b, rfl, by rw [kOf_row hp]; exact hp⟩, fun zs h1 h2 => ⟨zs, h1, h2, rfl⟩⟩
  refine wpAny_mono hs (fun _ s' x => ?_) fun _ _ e => e
  obtain ⟨_, _, J3, _, zs, h1, h2, rfl⟩ := x
  obtain ⟨e1, e2⟩ := refs_perm h2.perm
  have sub : ∀ b ∈ zs.map unref, b ∈ as := fun b hb => e2.mem_iff.mp hb
  refine ⟨.ref L, _, outA I.ok J3, rfl, q _ L (zs.map unref) ((zs.map unref).map fun a => kOf H2 (.ref a)) ?_ (by rw [upd_same, ← e1]) ?_ ?_ ?_⟩
  · intro b u e
    have hb : b ≠ L := ne_of_none e (I.hok.fresh (Nat.le_of_lt hlt))
    rw [upd_ne hb]
    exact up b u (by rw [upd_ne hb]; exact e)
  · exact rows_sub (fun b hb u e => by rw [upd_ne (ltL b (sub b hb))]; exact e) (rows_all fun b hb => rows_mem rw2 b (sub b hb))
  · rw [rows_get rw2]
    exact e2.map _
  · rw [e1] at h1
    exact List.pairwise_map.mpr (List.pairwise_map.mp h1)
end
end Lw
/-! Sets of ints, told by a comprehension. -/
namespace Lw
open PySem PySem.Spec PyProof.Rows L2 Evl
section
variable {X : Cx}
abbrev setNil (w : World) : Obj := { cls := .type "set", dict := none, data := .set #[] 0 (.fresh 0 0 (!w.params.followText "set-order")) }
/-- {e for x in it if ..}, e an int: D the new set -/
def tScI (w : World) (wi : TI) (g : TG) (tt : TT) (te : TE) (vs : List Nat) : TE := fun σ H Q => wi σ H fun J H1 => ∀ D, H1 D = none →
  ∃ W : Nat → Nat → Hp → Prop, (∃ m, W 0 m (upd H1 D (SetO w D (fun _ => false) 0))) ∧ ∀ i m G, W i m G → (J.stop i G ∧ Q (.ref D) G) ∨
    (J.go i G ∧ ∃ Nx : Hp → Prop, (∀ G', Nx G' → ∃ m', m' < m ∧ W (i + 1) m' G') ∧ ∀ x G', J.yld i G x G' → g x (wipe σ vs) G' fun σ2 G2 => wipe σ2 vs = wipe σ vs ∧ tt σ2 G2 fun b G3 =>
      if b = true then te σ2 G3 fun y G4 => ∃ (c : Int) (S : Int → Bool) (n : Nat), y = .int c ∧ G4 D = some (SetO w D S n) ∧ n + 1 < scanBound ∧
        Nx (upd G4 D (SetO w D (fun j => S j || decide (j = c)) (if S c = true then n else n + 1))) else Nx G3)
variable {pins : List (Addr × Obj)} {s : Shared} {σ : L2.St} {H : Hp} {Q : VK} {elt tg iter : Expr} {ifs : List Expr} {sc : Scope} {own : List (PySem.Str × Nat)} {pos pos' : Pos} {wi : TI} {g : TG} {tt : TT} {te : TE}
set_option maxHeartbeats 4000000 in
theorem pe_scI (hc : X.calm = true) (hN : X.N.Nodup) (hi : PI X tg iter wi) (ok : BlkOk X.N X.env.scope sc own)
    (hg : ∀ (s : Shared) (H : Hp) (C : Addr) (cl : List (PySem.Str × Addr)) (fp : List Addr), PG (X.blk s H sc (compEnvC sc cl C X.env) fp) tg g)
    (ht : ∀ (s : Shared) (H : Hp) (C : Addr) (cl : List (PySem.Str × Addr)) (fp : List Addr), PTs (X.blk s H sc (compEnvC sc cl C X.env) fp) ifs tt)
    (he : ∀ (s : Shared) (H : Hp) (C : Addr) (cl : List (PySem.Str × Addr)) (fp : List Addr), PE (X.blk s H sc (compEnvC sc cl C X.env) fp) elt te) (hs : ∀ x, foldedSetIterable iter X.env x = pure x := by intro _; rfl) :
    PE X (.SetComp elt [⟨tg, iter, ifs, 0⟩] sc pos) (tScI X.w wi g tt te (own.map (·.2))) := by
  refine ⟨fun pins s σ H Q I hq => ?_⟩
  rw [PpSet.eval_SetComp]
  have clo : ∀ y ∈ sc.names, y.2 = .free → ∃ c, X.env.cells.lookup y.1 = some c := fun y m e => (ok.free y m e).elim (fun k => I.ok.has _ (.inl k)) fun k => I.ok.has _ (.inr k)
  refine wpAny_comprehension_free rfl hs (closure_ok clo) ok.kind (fun y m e => by rw [ok.uniq y m, e]) (thn (hi.run pins s σ H _ I hq) fun _ s1 a1 => thn a1 fun _ s2 a2 => ?_)
  obtain ⟨it, fp, tn, J, G0, rfl, I2, T, t0, f0, q⟩ := a2
  refine PpSet.newSet_ok (newEnv_comp ?_)
  have fr := I2.hok.fresh (Nat.le_refl s2.heap.objs.size)
  have I3 : Inv X pins σ (upd G0 s2.heap.objs.size (SetO X.w s2.heap.objs.size (fun _ => false) 0)) { s2 with heap := s2.heap.push (setNil X.w) } :=
    I2.laid (t' := s2.toks) (fun b u e => Heap.get?_push_of_some _ e) (Nat.le_refl _) (setO_new (setR_fresh X.w))
  have lt2 : ∀ b ∈ fp, b < s2.heap.objs.size := fun b m => let ⟨_, e, _⟩ := T.obj _ _ t0 b m; Heap.lt_size e
  have t3 : tn 0 (s2.heap.push (setNil X.w)) := T.keep _ _ _ t0 fun b _ u e => Heap.get?_push_of_some _ e
  have f3 : ∀ b ∈ fp, FpOk X pins (upd G0 s2.heap.objs.size (SetO X.w s2.heap.objs.size (fun _ => false) 0)) b ∧ b < (s2.heap.push (setNil X.w)).objs.size := fun b m =>
    ⟨⟨by rw [upd_ne (Nat.ne_of_lt (lt2 b m))]; exact (f0 b m).1, (f0 b m).2⟩, by rw [Heap.size_push]; exact Nat.lt_succ_of_lt (lt2 b m)⟩
  obtain ⟨W, ⟨m0, w0⟩, turn⟩ := q _ fr
  clear fr lt2 f0 I2 t0 q
  generalize s2.heap.objs.size = D at *
  generalize upd G0 D (SetO X.w D (fun _ => false) 0) = G3 at *
  generalize hs3 : ({ s2 with heap := s2.heap.push (setNil X.w) } : Shared) = s3 at *
  have h3 : s2.heap.push (setNil X.w) = s3.heap := by rw [← hs3]
  rw [h3] at t3 f3
  have I4 := block_start I3 ok hN f3
  have pg := hg s3 G3 s3.heap.objs.size (cellsFrom (s3.heap.objs.size + 1) sc.names (cloFrom X.env.cells sc.names [])) fp
  have pt := ht s3 G3 s3.heap.objs.size (cellsFrom (s3.heap.objs.size + 1) sc.names (cloFrom X.env.cells sc.names [])) fp
  have pe := he s3 G3 s3.heap.objs.size (cellsFrom (s3.heap.objs.size + 1) sc.names (cloFrom X.env.cells sc.names [])) fp
  show codeAny _ _ (.compStart (.SetComp elt [⟨tg, iter, ifs, 0⟩] sc pos) 0 (.ref it) (.ref D) (compEnvC sc (cellsFrom (s3.heap.objs.size + 1) sc.names (cloFrom X.env.cells sc.names [])) s3.heap.objs.size X.env))
    (compPost (model X.prog X.w) X.A X.xe _ _ (.ref D) s3.heap.objs.size) { s3 with heap := pushCells (s3.heap.push { cls := .type "dict", data := .dict #[] }) sc.names }
  have n3 : ∀ b ∈ fp, G3 b = none := fun b m => (f3 b m).1.1
  generalize hce : compEnvC sc (cellsFrom (s3.heap.objs.size + 1) sc.names (cloFrom X.env.cells sc.names [])) s3.heap.objs.size X.env = ce at *
  have eL : ce.locals = s3.heap.objs.size := by rw [← hce]; rfl
  have t4 : tn 0 (pushCells (s3.heap.push { cls := .type "dict", data := .dict #[] }) sc.names) := T.keep _ _ _ t3 fun b _ u e => pushCells_keeps _ _ _ _ (Heap.get?_push_of_some _ e)
  generalize pushCells (s3.heap.push { cls := .type "dict", data := .dict #[] }) sc.names = g4 at *
  let Y := X.blk s3 G3 sc ce fp
  have still : ∀ {σ' : L2.St} {G : Hp} {z : Shared}, Inv Y [] σ' G z → (∀ b ∈ fp, G b = none) → ∀ b ∈ fp, FpOk Y [] G b := fun {σ' G z} J hn b m =>
    ⟨hn b m, (J.ok.exf b m).1, J.ok.exfs b m, .inl m, fun x c e => (J.ok.exf b m).2 x c e, fun p hp => nomatch (show p ∈ ([] : List (Addr × Obj)) from hp)⟩
  have main : codeAny (model X.prog X.w) X.A (.compLoop (.SetComp elt [⟨tg, iter, ifs, 0⟩] sc pos) 0 (.ref it) (.ref D) ce) (compPost (model X.prog X.w) X.A X.xe none (EP X pins σ Q) (.ref D) s3.heap.objs.size) { s3 with heap := g4 } := by
    refine PpSet.compLoopS_any (fun n z => ∃ i G, Inv Y [] (wipe σ (own.map (·.2))) G z ∧ tn i z.heap ∧ (∀ b ∈ fp, G b = none) ∧ W i n G) ?_ m0 ⟨0, G3, I4, t4, n3, w0⟩
    rintro n z ⟨i, G5, J5, t5, n5, w5⟩
    rcases turn i n G5 w5 with ⟨hstop, fin⟩ | ⟨hgo, Nx, dec, step⟩
    · refine thnF (T.done Y rfl rfl rfl hc i [] z _ G5 (fun _ _ => False) J5 (still J5 n5) t5 hstop) fun r z6 x6 => ?_
      obtain ⟨rfl, J6⟩ := x6
      have J7 : Inv X pins σ G5 z6 := I3.call' (ch := fp) J6.os J6.base J6.hok J6.bare fun b m => ⟨(f3 b m).1.2.2.2.1, (f3 b m).1.2.1, (f3 b m).1.2.2.2.2.1, (f3 b m).1.2.2.2.2.2⟩
      obtain ⟨mm, hns, _⟩ := J6.loc
      have hns : z6.heap.Ns ce.locals mm := hns
      have nL : G5 ce.locals = none := J6.free
      rw [eL] at hns nL
      refine ⟨mm, hns, fun h9 sb => ?_⟩
      obtain ⟨p0, p1, p2, p3, p4, p5⟩ := I3.fpOk (Nat.le_refl _) nL
      exact ⟨.ref D, G5, J7.turned (t' := z6.toks) (fun b u hb e => (sb.2 b hb).trans e) p0 p1 p3 p4 p5, rfl, fin⟩
    · refine thnF (T.item Y rfl rfl rfl hc i [] z _ G5 (fun _ _ => False) J5 (still J5 n5) t5 hgo) fun r z6 x6 => ?_
      obtain ⟨u, rfl, x6⟩ := x6
      refine thnF x6 fun _ z7 x7 => ?_
      obtain ⟨x, G7, J7, r7, y7, t7, n7⟩ := x7
      have J7' := J7.pinned (still J7 n7) (T.obj _ _ t7)
      refine thnF (pg.run _ z7 _ G7 x u _ J7' r7 (step x G7 y7)) fun _ z8 x8 => ?_
      obtain ⟨σ8, G8, J8, hw, q8⟩ := x8
      refine thnF (pt.run _ z8 σ8 G8 _ J8 q8) fun b z9 x9 => ?_
      obtain ⟨G9, J9, q9⟩ := x9
      have close : ∀ {z' : Shared} {G' : Hp}, Inv Y ([] ++ pinsAt fp z7.heap) σ8 G' z' → Nx G' → ∃ m, m < n ∧ ∃ i G, Inv Y [] (wipe σ (own.map (·.2))) G z' ∧ tn i z'.heap ∧ (∀ b ∈ fp, G b = none) ∧ W i m G := fun {z' G'} J' nx => by
        obtain ⟨m', lt, w'⟩ := dec G' nx
        have held : ∀ b ∈ fp, ∀ u, z7.heap.get? b = some u → z'.heap.get? b = some u ∧ G' b = none := fun b m u e => by
          have k := J'.pin (b, u) (List.mem_append_right _ (List.mem_append_right _ (mem_pinsAt m e)))
          exact ⟨k.1, k.2.1⟩
        refine ⟨m', lt, i + 1, G', (J'.unpinned (pins := [])).weak (by rw [← hw, wipe_length]) (fun j v e => by rw [← hw] at e; exact (wipe_some e).1), T.keep _ _ _ t7 fun b m u e => (held b m u e).1, fun b m => ?_, w'⟩
        obtain ⟨u, e, _⟩ := T.obj _ _ t7 b m
        exact (held b m u e).2
      cases b with
      | false => exact close J9 q9
      | true =>
        refine thnF (pe.run _ z9 σ8 G9 _ J9 q9) fun v z10 x10 => ?_
        obtain ⟨y, G10, J10, r10, c, S, k, rfl, hD, hz, nx⟩ := x10
        refine thnF (mt_sadd (X := Y) _ z10 σ8 G10 (.ref D) [.int c] (.ref D) [v] (fun _ G => Nx G) J10 rfl (.cons r10 .nil) ⟨D, c, S, k, rfl, rfl, hD, hz, nx⟩) fun _ z11 x11 => ?_
        obtain ⟨_, G11, J11, _, nx⟩ := x11
        exact close J11 nx
  exact PpSet.codeAny_compStart_set main (T.self X.A 0 _ _ _ t4 main)
/-- over a tuple that stays, every item gives the int f x -/
theorem scT {w : World} {K : PySem.W.Frag} {a : Addr} {xs : List V} {g : TG} {te : TE} {vs : List Nat} {σ : L2.St} {H1 : Hp} {D : Addr} {Qd : Hp → Prop} (f : V → Int) (hD : H1 D = none) (hx : SqT K H1 a xs) (hn : xs.length ≤ 1000)
    (turn : ∀ (i : Nat) x, xs[i]? = some x → ∀ H, Ex H1 H → ∀ Q1 : VK, (∀ G, Ex H G → Q1 (.int (f x)) G) → g x (wipe σ vs) H fun σ2 H2 => wipe σ2 vs = wipe σ vs ∧ tYes σ2 H2 fun b H3 => if b = true then te σ2 H3 Q1 else False)
    (done : ∀ H' S n, Ex H1 H' → H' D = some (SetO w D S n) → (∀ k, S k = true ↔ ∃ x ∈ xs, f x = k) → n ≤ xs.length → Qd H') :
    ∃ W : Nat → Nat → Hp → Prop, (∃ m, W 0 m (upd H1 D (SetO w D (fun _ => false) 0))) ∧ ∀ i m G, W i m G → ((Itt K a).stop i G ∧ Qd G) ∨
      ((Itt K a).go i G ∧ ∃ Nx : Hp → Prop, (∀ G', Nx G' → ∃ m', m' < m ∧ W (i + 1) m' G') ∧ ∀ x G', (Itt K a).yld i G x G' → g x (wipe σ vs) G' fun σ2 G2 => wipe σ2 vs = wipe σ vs ∧ tYes σ2 G2 fun b G3 =>
        if b = true then te σ2 G3 fun y G4 => ∃ (c : Int) (S : Int → Bool) (n : Nat), y = .int c ∧ G4 D = some (SetO w D S n) ∧ n + 1 < scanBound ∧
          Nx (upd G4 D (SetO w D (fun j => S j || decide (j = c)) (if S c = true then n else n + 1))) else Nx G3) := by
  let Inn : Nat → Hp → Prop := fun i G => Ex H1 G ∧ ∃ S n, G D = some (SetO w D S n) ∧ (∀ k, S k = true ↔ ∃ x ∈ xs.take i, f x = k) ∧ n ≤ i
  refine ⟨fun i m G => m = xs.length - i ∧ i ≤ xs.length ∧ Inn i G, ⟨xs.length, by simp, Nat.zero_le _, Ex.new hD, _, 0, upd_same, fun k => by simp, Nat.le_refl _⟩, ?_⟩
  rintro i m G ⟨rfl, hi, e, S, n, hS, hk, hle⟩
  have hq := ex_t e hx
  by_cases lt : i < xs.length
  · have gx : xs[i]? = some xs[i] := List.getElem?_eq_getElem lt
    refine .inr ⟨⟨xs, xs[i], hq, gx⟩, Inn (i + 1), fun G' p => ⟨xs.length - (i + 1), by omega, rfl, lt, p⟩, fun x G' y => ?_⟩
    obtain ⟨rfl, y⟩ := y
    obtain rfl : x = xs[i] := Option.some.inj ((y xs hq).symm.trans gx)
    refine turn i _ gx _ e _ fun G4 e4 => ⟨f xs[i], S, n, rfl, e4 _ _ hS, ?_, Ex.mut (e.trans e4) hD, _, _, upd_same, fun k => ?_, ?_⟩
    · show n + 1 < 4096
      omega
    · rw [Bool.or_eq_true, hk, decide_eq_true_eq, List.take_add_one, gx]
      constructor
      · rintro (⟨x, m, h⟩ | rfl)
        · exact ⟨x, List.mem_append_left _ m, h⟩
        · exact ⟨_, List.mem_append_right _ (by simp), rfl⟩
      · rintro ⟨x, m, h⟩
        rcases List.mem_append.mp m with m | m
        · exact .inl ⟨x, m, h⟩
        · have : x = xs[i] := by simpa using m
          subst this
          exact .inr h.symm
    · split <;> omega
  · obtain rfl : i = xs.length := by omega
    exact .inl ⟨⟨xs, hq, Nat.le_refl _⟩, done G S n e hS (fun k => by rw [hk, List.take_length]) hle⟩
end
end Lw
/-! Tables of colours: what they turn, plainly. -/
namespace Lw
open PySem PySem.Spec PyProof.Rows L2 Evl
def Col (c : Int) : Prop := 0 ≤ c ∧ c ≤ 1000000000
abbrev Tb := List (Int × Int)
structure Good (ps : Tb) : Prop where
  col : ∀ p ∈ ps, Col p.1 ∧ Col p.2
  asc : ps.Pairwise fun p q => p.1 < q.1
  len : ps.length ≤ 1000
def look (ps : Tb) (c : Int) : Int := ((ps.find? fun p => decide (p.1 = c)).map (·.2)).getD c
/-- a table in the heap -/
def Tab (H : Hp) (v : V) (ps : Tb) : Prop := ∃ a qs, v = .ref a ∧ Tu H a (qs.map V.ref) ∧ Rows H qs ps
theorem Tab.up {H H' : Hp} {v : V} {ps : Tb} (e : Ex H H') (t : Tab H v ps) : Tab H' v ps := let ⟨a, qs, h1, h2, h3⟩ := t; ⟨a, qs, h1, h2.up e, h3.up e⟩
theorem Rows.len {H : Hp} {qs : List Addr} {ps : Tb} (r : Rows H qs ps) : qs.length = ps.length := Paired.length r
theorem rows_at {H : Hp} : ∀ {qs : List Addr} {ps : Tb} {i : Nat} {p : Int × Int}, Rows H qs ps → ps[i]? = some p → ∃ q, qs[i]? = some q ∧ RowAt H q p
  | _, _, i, p, r, h => L2.DX.pget r h
theorem rows_at' {H : Hp} {qs : List Addr} {ps : Tb} {i : Nat} {v : V} (r : Rows H qs ps) (h : (qs.map V.ref)[i]? = some v) : ∃ q p, v = .ref q ∧ qs[i]? = some q ∧ ps[i]? = some p ∧ RowAt H q p := by
  rw [List.getElem?_map] at h
  cases e : qs[i]? with
  | none => rw [e] at h; cases h
  | some q =>
    rw [e] at h
    obtain rfl : V.ref q = v := Option.some.inj h
    have li := (List.getElem?_eq_some_iff.mp e).1
    rw [r.len] at li
    obtain ⟨q', e', ra⟩ := rows_at r (List.getElem?_eq_getElem li)
    rw [e] at e'
    cases e'
    exact ⟨q, _, rfl, rfl, List.getElem?_eq_getElem li, ra⟩
theorem ixT_at {K : PySem.W.Frag} {H : Hp} {p : Addr} {xs : List V} {i : Int} {j : Nat} {v : V} {Q : VK} (h : SqT K H p xs) (e : i = (j : Int)) (hx : xs[j]? = some v) (q : Q v H) : rIx K (.ref p) (.int i) H Q :=
  .inr (.inl ⟨p, xs, i, v, rfl, rfl, h, by rw [e]; exact atI_nat hx, q⟩)
theorem ixL_at {K : PySem.W.Frag} {H : Hp} {p : Addr} {xs : List V} {i : Int} {j : Nat} {v : V} {Q : VK} (h : SqL K H p xs) (e : i = (j : Int)) (hx : xs[j]? = some v) (q : Q v H) : rIx K (.ref p) (.int i) H Q :=
  .inl ⟨p, xs, i, v, rfl, rfl, h, by rw [e]; exact atI_nat hx, q⟩
theorem rows_ref {H : Hp} {qs : List Addr} {ps : Tb} {i : Nat} (r : Rows H qs ps) (h : i < ps.length) : ∃ q, (qs.map V.ref)[i]? = some (.ref q) ∧ RowAt H q ps[i] := by
  obtain ⟨q, e, ra⟩ := rows_at r (List.getElem?_eq_getElem h)
  exact ⟨q, by rw [List.getElem?_map, e]; rfl, ra⟩
theorem Good.at {ps : Tb} (g : Good ps) {i j : Nat} (hi : i < ps.length) (hj : j < ps.length) (h : i < j) : ps[i].1 < ps[j].1 := List.pairwise_iff_getElem.mp g.asc i j hi hj h
theorem look_nil (c : Int) : look [] c = c := rfl
theorem look_cons {p : Int × Int} {ps : Tb} {c : Int} : look (p :: ps) c = if p.1 = c then p.2 else look ps c := by
  unfold look
  rw [List.find?_cons]
  by_cases e : p.1 = c
  · rw [if_pos e, decide_eq_true e]; rfl
  · rw [if_neg e, decide_eq_false e]
theorem look_no {ps : Tb} {c : Int} (h : ∀ p ∈ ps, p.1 ≠ c) : look ps c = c := by
  induction ps with
  | nil => rfl
  | cons p ps ih =>
    rw [look_cons, if_neg (h p (by simp))]
    exact ih fun q m => h q (List.mem_cons_of_mem _ m)
theorem look_in {ps : Tb} {c : Int} : (∃ p ∈ ps, p.1 = c ∧ look ps c = p.2) ∨ (∀ p ∈ ps, p.1 ≠ c) ∧ look ps c = c := by
  induction ps with
  | nil => exact .inr ⟨fun _ h => (nomatch h), rfl⟩
  | cons p ps ih =>
    rw [look_cons]
    by_cases e : p.1 = c
    · exact .inl ⟨p, by simp, e, by rw [if_pos e]⟩
    · rw [if_neg e]
      rcases ih with ⟨q, m, a, b⟩ | ⟨a, b⟩
      · exact .inl ⟨q, List.mem_cons_of_mem _ m, a, b⟩
      · refine .inr ⟨fun q m => ?_, b⟩
        rcases List.mem_cons.mp m with rfl | m
        · exact e
        · exact a q m
theorem Good.look {ps : Tb} (g : Good ps) {c : Int} (h : Col c) : Col (look ps c) := by
  rcases look_in (ps := ps) (c := c) with ⟨p, m, _, e⟩ | ⟨_, e⟩
  · rw [e]; exact (g.col p m).2
  · rw [e]; exact h
/-- the dict of a table -/
theorem merge_asc {κ : Type} : ∀ {ps acc : Tb}, (acc ++ ps).Pairwise (fun p q => p.1 ≠ q.1) → mergeK (kvI acc) (kvI ps) = kvI (acc ++ ps)
  | [], acc, _ => by rw [List.append_nil]; rfl
  | p :: ps, acc, h => by
    have no : ((kvI acc).any fun kv => decide (kv.1 = Sum.inl p.1)) = false := by
      rw [List.any_eq_false]
      intro x hx
      obtain ⟨q, hq, rfl⟩ := List.mem_map.mp hx
      have := (List.pairwise_append.mp h).2.2 q hq p (by simp)
      simpa using this
    show mergeK (putK (kvI acc) (.inl p.1) (.int p.2)) (kvI ps) = _
    unfold putK
    rw [no]
    have e : kvI acc ++ [(Sum.inl p.1, V.int p.2)] = kvI (acc ++ [p]) := by simp [kvI]
    show mergeK (kvI acc ++ [(Sum.inl p.1, V.int p.2)]) (kvI ps) = _
    rw [e, merge_asc (κ := κ) (by simpa using h)]
    simp
theorem Good.ne {ps : Tb} (g : Good ps) : ps.Pairwise fun p q => p.1 ≠ q.1 := g.asc.imp fun h => Int.ne_of_lt h
theorem val_look {ps : Tb} {c : Int} : (valV (kvI ps) (.inl c)).getD (.int c) = .int (look ps c) := by
  induction ps with
  | nil => rfl
  | cons p ps ih =>
    rw [look_cons]
    by_cases e : p.1 = c
    · rw [if_pos e, show kvI (p :: ps) = (Sum.inl p.1, V.int p.2) :: kvI ps from rfl, valV_pos (by rw [e])]
      rfl
    · rw [if_neg e, ← ih]
      show (valV ((Sum.inl p.1, V.int p.2) :: kvI ps) (.inl c)).getD (.int c) = _
      rw [valV_neg (by simpa using e)]
theorem catT {K : PySem.W.Frag} {H : Hp} {a b : Addr} {xs ys : List V} {Q : VK} (ha : SqT K H a xs) (hb : SqT K H b ys) (hz : xs.length + ys.length ≤ 1000) (q : ∀ p H', Ex H H' → SqT K H' p (xs ++ ys) → Q (.ref p) H') : rCatA K (.ref a) (.ref b) H Q := by
  refine ⟨a, b, xs, ys, rfl, rfl, ha, hb, Nat.le_trans hz (by decide), fun e => ?_, fun _ e => ?_, fun _ _ p n => q p _ (Ex.new n) (SqT.of upd_same)⟩
  · exact q b H (Ex.refl H) (by rw [e]; exact hb)
  · exact q a H (Ex.refl H) (by rw [e, List.append_nil]; exact ha)
theorem Rows.app {H : Hp} : ∀ {qs qs' : List Addr} {ps ps' : Tb}, Rows H qs ps → Rows H qs' ps' → Rows H (qs ++ qs') (ps ++ ps')
  | _, _, _, _, .nil, r => r
  | _, _, _, _, .cons h t, r => .cons h (Rows.app t r)
theorem rows_of_all {H : Hp} : ∀ {ys : List V} {fs : Tb}, ys.length = fs.length → (∀ (i : Nat) y, ys[i]? = some y → ∃ q p, y = .ref q ∧ fs[i]? = some p ∧ RowAt H q p) → ∃ qs : List Addr, ys = qs.map V.ref ∧ Rows H qs fs
  | [], [], _, _ => ⟨[], rfl, .nil⟩
  | y :: ys, p :: fs, hl, h => by
    obtain ⟨q, p', rfl, e, r⟩ := h 0 y rfl
    cases e
    obtain ⟨qs, rfl, t⟩ := rows_of_all (ys := ys) (fs := fs) (by simpa using hl) fun i z e => h (i + 1) z e
    exact ⟨q :: qs, rfl, .cons r t⟩
  | [], _ :: _, hl, _ => by simp at hl
  | _ :: _, [], hl, _ => by simp at hl
/-- the pairs of fs that are not idle are kept -/
def SiftP (fs : Tb) : PeT := fun i o H => ∃ p, fs[i]? = some p ∧ ((p.1 ≠ p.2 ∧ ∃ q, o = some (.ref q) ∧ RowAt H q p) ∨ (p.1 = p.2 ∧ o = none))
theorem sift_mono (fs : Tb) : Mono (SiftP fs) := fun i o H H' e ⟨p, h, r⟩ => ⟨p, h, r.imp (fun ⟨a, q, b, c⟩ => ⟨a, q, b, e _ _ (fun xs => by intro z; cases z) c⟩) id⟩
theorem sift_all {H : Hp} : ∀ {os : List (Option V)} {fs : Tb}, os.length = fs.length → (∀ (i : Nat) o, os[i]? = some o → SiftP fs i o H) → ∃ qs : List Addr, os.filterMap id = qs.map V.ref ∧ Rows H qs (fs.filter fun p => decide (p.1 ≠ p.2))
  | [], [], _, _ => ⟨[], rfl, .nil⟩
  | o :: os, p :: fs, hl, h => by
    obtain ⟨qs, e2, t⟩ := sift_all (os := os) (fs := fs) (by simpa using hl) fun i z e => h (i + 1) z e
    obtain ⟨p', e, r⟩ := h 0 o rfl
    cases e
    rcases r with ⟨a, q, rfl, c⟩ | ⟨a, rfl⟩
    · exact ⟨q :: qs, by show V.ref q :: os.filterMap id = _; rw [e2]; rfl, by rw [List.filter_cons_of_pos (by simpa using a)]; exact .cons c t⟩
    · exact ⟨qs, by show os.filterMap id = _; exact e2, by rw [List.filter_cons_of_neg (by simpa using a)]; exact t⟩
  | [], _ :: _, hl, _ => by simp at hl
  | _ :: _, [], hl, _ => by simp at hl
/-- ts turns as ps and then rs, and has what is needed alone -/
structure IsChain (ps rs ts : Tb) : Prop where
  asc : ts.Pairwise fun p q => p.1 < q.1
  mem : ∀ p : Int × Int, p ∈ ts ↔ p.1 ≠ p.2 ∧ p.2 = look rs (look ps p.1)
  len : ts.length ≤ ps.length + rs.length
theorem far_out {ps rs : Tb} {c : Int} (h : look rs (look ps c) ≠ c) : (∃ p ∈ ps ++ rs, p.1 = c) := by
  rcases look_in (ps := ps) (c := c) with ⟨p, m, e, _⟩ | ⟨_, e⟩
  · exact ⟨p, List.mem_append_left _ m, e⟩
  · rw [e] at h
    rcases look_in (ps := rs) (c := c) with ⟨p, m, e, _⟩ | ⟨_, e⟩
    · exact ⟨p, List.mem_append_right _ m, e⟩
    · exact absurd e h
theorem chain_mk {ps rs : Tb} {ns : List Int} (hs : ns.Pairwise (· < ·)) (hm : ∀ k, k ∈ ns ↔ ∃ p ∈ ps ++ rs, p.1 = k) (hl : ns.length ≤ ps.length + rs.length) : IsChain ps rs ((ns.map fun k => (k, look rs (look ps k))).filter fun p => decide (p.1 ≠ p.2)) := by
  refine ⟨List.Pairwise.filter _ (List.pairwise_map.mpr hs : (ns.map fun k => (k, look rs (look ps k))).Pairwise fun p q => p.1 < q.1), fun p => ?_, Nat.le_trans (List.length_filter_le _ _) (by rw [List.length_map]; exact hl)⟩
  rw [List.mem_filter, List.mem_map, decide_eq_true_eq]
  constructor
  · rintro ⟨⟨k, m, rfl⟩, h⟩
    exact ⟨h, rfl⟩
  · rintro ⟨h, e⟩
    refine ⟨⟨p.1, (hm p.1).mpr (far_out fun z => h (by rw [e]; exact z.symm)), ?_⟩, h⟩
    rw [← e]
theorem asc_uniq : ∀ {as bs : Tb}, as.Pairwise (fun p q => p.1 < q.1) → bs.Pairwise (fun p q => p.1 < q.1) → (∀ p, p ∈ as ↔ p ∈ bs) → as = bs
  | [], [], _, _, _ => rfl
  | [], b :: bs, _, _, h => absurd ((h b).mpr (by simp)) (by simp)
  | a :: as, [], _, _, h => absurd ((h a).mp (by simp)) (by simp)
  | a :: as, b :: bs, ha, hb, h => by
    obtain ⟨a1, a2⟩ := List.pairwise_cons.mp ha
    obtain ⟨b1, b2⟩ := List.pairwise_cons.mp hb
    have e : a = b := by
      rcases List.mem_cons.mp ((h a).mp (by simp)) with e | m
      · exact e
      · rcases List.mem_cons.mp ((h b).mpr (by simp)) with e | n
        · exact e.symm
        · have := b1 a m
          have := a1 b n
          omega
    subst e
    rw [asc_uniq a2 b2 fun p => ?_]
    constructor
    · intro m
      rcases List.mem_cons.mp ((h p).mp (List.mem_cons_of_mem _ m)) with rfl | n
      · exact absurd (a1 p m) (Int.lt_irrefl _)
      · exact n
    · intro m
      rcases List.mem_cons.mp ((h p).mpr (List.mem_cons_of_mem _ m)) with rfl | n
      · exact absurd (b1 p m) (Int.lt_irrefl _)
      · exact n
theorem IsChain.uniq {ps rs ts us : Tb} (a : IsChain ps rs ts) (b : IsChain ps rs us) : ts = us := asc_uniq a.asc b.asc fun p => (a.mem p).trans (b.mem p).symm
theorem IsChain.good {ps rs ts : Tb} (c : IsChain ps rs ts) (g : Good ps) (k : Good rs) (hl : ps.length + rs.length ≤ 1000) : Good ts := by
  refine ⟨fun p m => ?_, c.asc, Nat.le_trans c.len hl⟩
  obtain ⟨h1, h2⟩ := (c.mem p).mp m
  have c1 : Col p.1 := by
    obtain ⟨q, m, e⟩ := far_out (ps := ps) (rs := rs) (c := p.1) fun z => h1 (by rw [h2]; exact z.symm)
    rw [← e]
    rcases List.mem_append.mp m with m | m
    · exact (g.col q m).1
    · exact (k.col q m).1
  exact ⟨c1, by rw [h2]; exact k.look (g.look c1)⟩
theorem look_mem {ts : Tb} (h : ts.Pairwise fun p q => p.1 < q.1) {p : Int × Int} (m : p ∈ ts) : look ts p.1 = p.2 := by
  induction ts with
  | nil => cases m
  | cons q ts ih =>
    obtain ⟨a, b⟩ := List.pairwise_cons.mp h
    rw [look_cons]
    rcases List.mem_cons.mp m with rfl | m
    · rw [if_pos rfl]
    · rw [if_neg (Int.ne_of_lt (a p m))]
      exact ih b m
theorem IsChain.turn {ps rs ts : Tb} (c : IsChain ps rs ts) (x : Int) : look ts x = look rs (look ps x) := by
  by_cases e : look rs (look ps x) = x
  · rcases look_in (ps := ts) (c := x) with ⟨p, m, e1, e2⟩ | ⟨_, e2⟩
    · obtain ⟨h1, h2⟩ := (c.mem p).mp m
      rw [e2, h2, e1]
    · rw [e2, e]
  · exact look_mem c.asc (p := (x, look rs (look ps x))) ((c.mem _).mpr ⟨fun z => e z.symm, rfl⟩)
theorem look_at {c : Int} : ∀ {ps : Tb} {i : Nat} {p : Int × Int}, ps[i]? = some p → (∀ q ∈ ps.take i, q.1 ≠ c) → p.1 = c → look ps c = p.2
  | q :: ps, 0, p, h, _, e => by
    cases h
    rw [look_cons, if_pos e]
  | q :: ps, i + 1, p, h, no, e => by
    rw [look_cons, if_neg (no q (by simp))]
    exact look_at (i := i) h (fun r m => no r (by rw [List.take_succ_cons]; exact List.mem_cons_of_mem _ m)) e
  | [], i, p, h, _, _ => by simp at h
theorem eqV_int {a b : Int} : eqV (.int a) (.int b) = decide (a = b) := by
  by_cases h : a = b
  · subst h; simp [eqV]
  · simp [eqV, h]
theorem inV_ints {k : Int} {ns : List Int} : inV (.int k) (ns.map V.int) = decide (k ∈ ns) := by
  unfold inV
  induction ns with
  | nil => rfl
  | cons n ns ih =>
    rw [List.map_cons, List.any_cons, ih, eqV_int]
    by_cases e : n = k
    · subst e; simp
    · have e' : ¬ k = n := fun z => e z.symm
      simp [e, e']
theorem flat_ints (ns : List Int) : (ns.map V.int).all flatV = true := by
  rw [List.all_eq_true]
  intro x hx
  obtain ⟨n, _, rfl⟩ := List.mem_map.mp hx
  rfl
theorem in_ints {K : PySem.W.Frag} {H : Hp} {p : Addr} {k : Int} {ns : List Int} {Q : VK} (h : SqL K H p (ns.map V.int)) (q : Q (.bl (decide (k ∈ ns))) H) : rIn K false (.int k) (.ref p) H Q :=
  ⟨p, _, rfl, .inl h, rfl, flat_ints ns, by rw [inV_ints]; exact q⟩
theorem rows_ex {H : Hp} {far : Int} : ∀ {ys : List V} {ns : List Int}, ys.length = ns.length → (∀ (i : Nat) y, ys[i]? = some y → ∃ q k x, y = .ref q ∧ ns[i]? = some k ∧ (0 ≤ x ∧ x < far) ∧ RowAt H q (k, x)) →
    ∃ (qs : List Addr) (fs : Tb), ys = qs.map V.ref ∧ Rows H qs fs ∧ fs.map (·.1) = ns ∧ ∀ p ∈ fs, 0 ≤ p.2 ∧ p.2 < far
  | [], [], _, _ => ⟨[], [], rfl, .nil, rfl, fun p m => by simp at m⟩
  | y :: ys, n :: ns, hl, h => by
    obtain ⟨q, k, x, rfl, e, hx, r⟩ := h 0 y rfl
    cases e
    obtain ⟨qs, fs, rfl, t, e2, hf⟩ := rows_ex (far := far) (ys := ys) (ns := ns) (by simpa using hl) fun i z e => h (i + 1) z e
    refine ⟨q :: qs, (n, x) :: fs, rfl, .cons r t, by rw [List.map_cons, e2], fun p m => ?_⟩
    rcases List.mem_cons.mp m with rfl | m
    · exact hx
    · exact hf p m
  | [], _ :: _, hl, _ => by simp at hl
  | _ :: _, [], hl, _ => by simp at hl
theorem asc_of {ns : List Int} (h : ns.Pairwise (· ≤ ·)) (nd : ns.Nodup) : ns.Pairwise (· < ·) := by
  induction ns with
  | nil => exact .nil
  | cons n ns ih =>
    obtain ⟨a, b⟩ := List.pairwise_cons.mp h
    obtain ⟨c, d⟩ := List.nodup_cons.mp nd
    refine .cons (fun m hm => ?_) (ih b d)
    have := a m hm
    have : n ≠ m := fun z => c (z ▸ hm)
    omega
/-- a drawn table is good -/
theorem good_mk {fs : Tb} {ns : List Int} {far : Int} (e : fs.map (·.1) = ns) (h : ns.Pairwise (· ≤ ·)) (nd : ns.Nodup) (hn : ∀ k ∈ ns, 0 ≤ k ∧ k < far) (hf : ∀ p ∈ fs, 0 ≤ p.2 ∧ p.2 < far) (f1 : far ≤ 1000000000) (hl : ns.length ≤ 5) : Good fs ∧ fs.length ≤ 5 := by
  have l : fs.length = ns.length := by rw [← e, List.length_map]
  refine ⟨⟨fun p m => ?_, List.pairwise_map.mp (e ▸ asc_of h nd), by omega⟩, by omega⟩
  have a := hn p.1 (by rw [← e]; exact List.mem_map.mpr ⟨p, m, rfl⟩)
  have b := hf p m
  exact ⟨⟨a.1, by omega⟩, ⟨b.1, by omega⟩⟩
theorem get_ints {ns : List Int} {i : Nat} {x : V} (h : (ns.map V.int)[i]? = some x) : ∃ k, ns[i]? = some k ∧ x = .int k := by
  rw [List.getElem?_map] at h
  cases hz : ns[i]? with
  | none => rw [hz] at h; cases h
  | some k => rw [hz] at h; exact ⟨k, rfl, (Option.some.inj h).symm⟩
/-- a table as data -/
def datT (ts : Tb) : PyData := .tuple (ts.map fun p => .tuple [.int p.1, .int p.2])
theorem lay_all (ts : Tb) : PyData.canLayAll0 (ts.map fun p => .tuple [.int p.1, .int p.2]) = true := by
  induction ts with
  | nil => rfl
  | cons p ts ih => simp [PyData.canLayAll0, PyData.canLay0, ih]
theorem deep_all (ts : Tb) : PyData.depthAll (ts.map fun p => .tuple [.int p.1, .int p.2]) ≤ 1 := by
  induction ts with
  | nil => decide
  | cons p ts ih =>
    rw [List.map_cons, PyData.depthAll]
    exact Nat.max_le.mpr ⟨by simp [PyData.depth, PyData.depthAll], ih⟩
theorem shaped_tab (ts : Tb) : SeqAt.shaped (datT ts) = true := by
  unfold SeqAt.shaped datT
  rw [PyData.canLay0, PyData.depth, lay_all, decide_eq_true (by have := deep_all ts; omega)]
  rfl
theorem eqv_tab (ts : Tb) : PyData.eqv (datT ts) (datT ts) = true := PySem.SeqAt.eqv_refl _ (SeqAt.canLay_of_shaped (shaped_tab ts))
theorem dp_tab {K : PySem.W.Frag} {H : Hp} {v : V} {ts : Tb} (t : Tab H v ts) : Dp K H v (datT ts) := by
  obtain ⟨a, qs, rfl, h, r⟩ := t
  refine .tup h.sq ?_
  clear h
  induction r with
  | nil => exact .nil
  | cons h t ih => exact .cons (.tup (SqT.of h) (.cons (.int _) (.cons (.int _) .nil))) ih
theorem ne_tab {K : PySem.W.Frag} {H : Hp} {v u : V} {ts : Tb} {Q : VK} (t : Tab H v ts) (t' : Tab H u ts) (q : Q (.bl false) H) : rNeD K v u H Q :=
  ⟨_, _, dp_tab t, dp_tab t', shaped_tab ts, shaped_tab ts, by rw [eqv_tab]; exact q⟩
theorem eq_tab {K : PySem.W.Frag} {H : Hp} {v u : V} {ts : Tb} {Q : VK} (t : Tab H v ts) (t' : Tab H u ts) (q : Q (.bl true) H) : rEqD K v u H Q :=
  ⟨_, _, dp_tab t, dp_tab t', shaped_tab ts, shaped_tab ts, by rw [eqv_tab]; exact q⟩
/-- the dict of pairs (k, F k) -/
theorem merge_fun (F : Int → Int) : ∀ {ks : List Int} {acc : Tb}, (acc.map (·.1)).Nodup → (∀ p ∈ acc, p.2 = F p.1) →
    ∃ es : Tb, mergeK (kvI acc) (kvI (ks.map fun k => (k, F k))) = kvI es ∧ (es.map (·.1)).Nodup ∧ ∀ p, p ∈ es ↔ p ∈ acc ∨ p.1 ∈ ks ∧ p.2 = F p.1
  | [], acc, nd, hf => ⟨acc, rfl, nd, fun p => by simp⟩
  | k :: ks, acc, nd, hf => by
    have step : ∃ acc' : Tb, putK (kvI acc) (.inl k) (.int (F k)) = kvI acc' ∧ (acc'.map (·.1)).Nodup ∧ (∀ p, p ∈ acc' ↔ p ∈ acc ∨ p = (k, F k)) := by
      unfold putK
      by_cases hk : k ∈ acc.map (·.1)
      · obtain ⟨p, hp, e⟩ := List.mem_map.mp hk
        have e' : p.1 = k := e
        have any : ((kvI acc).any fun kv => decide (kv.1 = Sum.inl k)) = true := by
          rw [List.any_eq_true]
          exact ⟨(.inl p.1, .int p.2), List.mem_map.mpr ⟨p, hp, rfl⟩, by simpa using e'⟩
        rw [if_pos any]
        refine ⟨acc, ?_, nd, fun q => ⟨.inl, fun h => h.elim id fun h => ?_⟩⟩
        · unfold kvI
          rw [List.map_map]
          refine List.map_congr_left fun q hq => ?_
          show (if (Sum.inl q.1 : Key) = Sum.inl k then ((Sum.inl q.1 : Key), V.int (F k)) else (Sum.inl q.1, V.int q.2)) = (Sum.inl q.1, V.int q.2)
          split
          · rename_i h
            rw [hf q hq, Sum.inl.inj h]
          · rfl
        · have : p = q := by
            rw [h]
            exact Prod.ext e' (by rw [hf p hp, e'])
          rw [← this]; exact hp
      · have any : ((kvI acc).any fun kv => decide (kv.1 = Sum.inl k)) = false := by
          rw [List.any_eq_false]
          intro x hx
          obtain ⟨q, hq, rfl⟩ := List.mem_map.mp hx
          have : q.1 ≠ k := fun z => hk (List.mem_map.mpr ⟨q, hq, z⟩)
          simpa using this
        rw [any, if_neg Bool.false_ne_true]
        refine ⟨acc ++ [(k, F k)], by simp [kvI], ?_, fun q => by simp⟩
        rw [List.map_append]
        refine List.nodup_append.mpr ⟨nd, by simp, fun x hx y hy => ?_⟩
        obtain rfl : y = k := by simpa using hy
        exact fun z => hk (z ▸ hx)
    obtain ⟨acc', e1, nd', hm⟩ := step
    obtain ⟨es, e2, nd2, hm2⟩ := merge_fun F (ks := ks) (acc := acc') nd' fun p hp => by
      rcases (hm p).mp hp with h | rfl
      · exact hf p h
      · rfl
    refine ⟨es, ?_, nd2, fun p => ?_⟩
    · show mergeK (putK (kvI acc) (.inl k) (.int (F k))) (kvI (ks.map fun k => (k, F k))) = _
      rw [e1, e2]
    · rw [hm2, hm, List.mem_cons]
      constructor
      · rintro ((h | rfl) | ⟨h, e⟩)
        · exact .inl h
        · exact .inr ⟨.inl rfl, rfl⟩
        · exact .inr ⟨.inr h, e⟩
      · rintro (h | ⟨h | h, e⟩)
        · exact .inl (.inl h)
        · exact .inl (.inr (Prod.ext h (by rw [e, h])))
        · exact .inr ⟨h, e⟩
theorem asc_lex {rs : Tb} (h : rs.Pairwise fun p q => SrtO.lexB q p = false) (nd : (rs.map (·.1)).Nodup) : rs.Pairwise fun p q => p.1 < q.1 := by
  have n2 := List.pairwise_map.mp nd
  refine (h.and n2).imp fun {p q} ⟨a, b⟩ => ?_
  have := SrtO.lexB_no.mp a
  omega
/-- the due table is the chain -/
theorem due_chain {ps rs ts es us : Tb} {ks : List Int} (c : IsChain ps rs ts) (hk : ∀ p ∈ ps ++ rs, p.1 ∈ ks) (nd : (es.map (·.1)).Nodup) (hm : ∀ p, p ∈ es ↔ p.1 ∈ ks ∧ p.2 = look rs (look ps p.1))
    (hp : us.Perm es) (hs : us.Pairwise fun p q => SrtO.lexB q p = false) : us.filter (fun p => decide (p.1 ≠ p.2)) = ts := by
  refine asc_uniq (List.Pairwise.filter _ (asc_lex hs ((hp.map _).nodup_iff.mpr nd))) c.asc fun p => ?_
  rw [List.mem_filter, hp.mem_iff, hm, c.mem, decide_eq_true_eq]
  constructor
  · rintro ⟨⟨_, e⟩, h⟩
    exact ⟨h, e⟩
  · rintro ⟨h, e⟩
    obtain ⟨q, hq, e2⟩ := far_out (ps := ps) (rs := rs) (c := p.1) fun z => h (by rw [e]; exact z.symm)
    exact ⟨⟨e2 ▸ hk q hq, e⟩, h⟩
theorem ints_of_all {f : Int × Int → Int} {fs : Tb} {ys : List V} (hl : ys.length = fs.length) (h : ∀ (i : Nat) y, ys[i]? = some y → ∃ p, fs[i]? = some p ∧ y = .int (f p)) : ∃ xs : List Int, ys = xs.map V.int ∧ xs = fs.map f := by
  refine ⟨fs.map f, ?_, rfl⟩
  refine List.ext_getElem? fun i => ?_
  rw [List.getElem?_map, List.getElem?_map]
  by_cases c : i < ys.length
  · obtain ⟨p, e1, e2⟩ := h i ys[i] (List.getElem?_eq_getElem c)
    rw [List.getElem?_eq_getElem c, e1, e2]
    rfl
  · rw [List.getElem?_eq_none (by omega), List.getElem?_eq_none (by omega)]
    rfl
theorem shaped2 (x : Int) : SeqAt.shaped (.list [.int x, .int x]) = true := by
  simp [SeqAt.shaped, PyData.canLay0, PyData.canLayAll0, PyData.depth, PyData.depthAll]
theorem ne2 {K : PySem.W.Frag} {H : Hp} {a b : Addr} {x : Int} {Q : VK} (h : H a = some (.lst [.int x, .int x])) (h' : H b = some (.lst [.int x, .int x])) (q : Q (.bl false) H) : rNeD K (.ref a) (.ref b) H Q :=
  ⟨_, _, .lst (SqL.of h) (.cons (.int _) (.cons (.int _) .nil)), .lst (SqL.of h') (.cons (.int _) (.cons (.int _) .nil)), shaped2 x, shaped2 x, by rw [SeqAt.eqv_refl _ (SeqAt.canLay_of_shaped (shaped2 x))]; exact q⟩
theorem good_nil : Good [] := ⟨fun p m => by simp at m, .nil, by simp⟩
theorem any_false {ys : List V} (h : ∀ y ∈ ys, y = V.bl false) : ∃ bs : List Bool, ys = bs.map V.bl ∧ bs.any id = false := by
  refine ⟨List.replicate ys.length false, ?_, by simp⟩
  rw [List.map_replicate]
  exact List.eq_replicate_iff.mpr ⟨rfl, h⟩
theorem rows_kv {K : PySem.W.Frag} {H : Hp} : ∀ {qs : List Addr} {ps : Tb}, Rows H qs ps → Paired (fun (p : Addr) (kv : Key × V) => SqT K H p [kV kv.1, kv.2]) qs (kvI ps)
  | _, _, .nil => .nil
  | _, _, .cons h t => .cons (SqT.of h) (rows_kv t)
end Lw
local macro_rules | `(tactic| fail "side") => `(tactic| first
  | ((with_reducible show (0 : Int) < _); omega)
  | ((with_reducible show L2.CMul _ _); unfold L2.CMul; omega)
  | ((with_reducible show L2.CDiv _ _); unfold L2.CDiv; omega)
  | ((with_reducible show L2.CPow _ _); unfold L2.CPow; decide)
  | ((with_reducible show (_ : Nat) ≤ _); refine Nat.le_trans ?_ Lw.line_ge; simp only [List.length_cons, List.length_nil, Nat.zero_add, Nat.reduceAdd]; decide)
  | ((with_reducible show (_ : Nat) < _); refine Nat.lt_of_lt_of_le ?_ Lw.line_ge; simp only [List.length_cons, List.length_nil, Nat.zero_add, Nat.reduceAdd]; decide)
  | ((with_reducible show (_ : Int) < _); first | omega | decide)
  | ((with_reducible show (_ : Int) ≤ _); first | omega | decide | (split <;> omega))
  | (show (0 : Int) < _; omega))
local macro_rules | `(tactic| fail "at1") => `(tactic| first
  | (with_reducible assumption)
  | ((with_reducible show L2.upd _ _ _ _ = _); first | exact L2.upd_same | exact Lw.upd_new (by with_reducible assumption) (by fail "at1"))
  | ((with_reducible show Lw.Minus _ _ _ = _); exact Lw.minus_at (Lw.ne_fresh (by with_reducible assumption) (by fail "at1")) (by fail "at1"))
  | exact Lw.ex_at (by with_reducible assumption) (by fail "at1"))
local macro_rules | `(tactic| fail "at") => `(tactic| ((with_reducible show (_ : Option L2.HO) = _); fail "at1"))
local macro_rules | `(tactic| fail "pool1") => `(tactic| first
  | (with_reducible assumption)
  | ((with_reducible show Lw.Pool (L2.upd _ _ _) _); exact Lw.Pool.new (by with_reducible assumption) (by fail "pool1"))
  | exact Lw.Pool.up (by with_reducible assumption) (by fail "pool1"))
local macro_rules | `(tactic| fail "pool") => `(tactic| ((with_reducible show Lw.Pool _ _); fail "pool1"))
local macro_rules | `(tactic| fail "th1") => `(tactic| first
  | (with_reducible assumption)
  | ((with_reducible show Lw.Th (L2.upd _ _ _) _ _); exact Lw.Th.new (by with_reducible assumption) (by fail "th1"))
  | exact Lw.Th.up (by with_reducible assumption) (by fail "th1"))
local macro_rules | `(tactic| fail "th") => `(tactic| ((with_reducible show Lw.Th _ _ _); fail "th1"))
local macro_rules | `(tactic| fail "sql1") => `(tactic| first
  | (apply Lw.sqlK; (with_reducible assumption); rfl)
  | exact L2.SqL.of (by fail "at1")
  | ((with_reducible show L2.SqL _ (L2.upd _ _ _) _ _); exact Evl.ex_l (Evl.Ex.new (by with_reducible assumption)) (by fail "sql1"))
  | exact Evl.ex_l (by with_reducible assumption) (by fail "sql1"))
local macro_rules | `(tactic| fail "sql") => `(tactic| ((with_reducible show L2.SqL _ _ _ _); fail "sql1"))
local macro_rules | `(tactic| fail "tu1") => `(tactic| first
  | (with_reducible assumption)
  | ((with_reducible show Lw.Tu (L2.upd _ _ _) _ _); exact Lw.Tu.up (Evl.Ex.new (by with_reducible assumption)) (by fail "tu1"))
  | exact Lw.Tu.up (by with_reducible assumption) (by fail "tu1"))
local macro_rules | `(tactic| fail "sqt1") => `(tactic| first
  | (apply Lw.sqtK; (with_reducible assumption); rfl)
  | exact Lw.Tu.sq (by fail "tu1")
  | exact L2.SqT.of (by fail "at1")
  | ((with_reducible show L2.SqT _ (L2.upd _ _ _) _ _); exact Evl.ex_t (Evl.Ex.new (by with_reducible assumption)) (by fail "sqt1"))
  | exact Evl.ex_t (by with_reducible assumption) (by fail "sqt1"))
local macro_rules | `(tactic| fail "sqt") => `(tactic| ((with_reducible show L2.SqT _ _ _ _); fail "sqt1"))
local macro_rules | `(tactic| fail "kd1") => `(tactic| first
  | (with_reducible assumption) | exact Lw.Kd.int _ | exact Lw.Kd.bl _ | exact Lw.Kd.str _ | exact Lw.Kd.non
  | exact Lw.Kd.tup (by fail "at1") | exact Lw.Kd.fz (by fail "at1") | exact Lw.Kd.lst (by fail "at1") | exact Lw.Kd.dK (by fail "at1")
  | ((with_reducible show Lw.Kd (L2.upd _ _ _) _ _); exact Lw.Kd.new (by with_reducible assumption) (by fail "kd1"))
  | exact Lw.Kd.up (by with_reducible assumption) (by fail "kd1"))
local macro_rules | `(tactic| fail "kd") => `(tactic| ((with_reducible show Lw.Kd _ _ _); fail "kd1"))
local macro_rules | `(tactic| fail "ati") => `(tactic| first
  | (with_reducible assumption)
  | ((with_reducible show L2.atI _ 0 = _); rfl)
  | ((with_reducible show L2.atI _ 1 = _); rfl)
  | ((with_reducible show L2.atI _ 2 = _); rfl)
  | ((with_reducible show L2.atI _ 3 = _); rfl)
  | ((with_reducible show L2.atI _ (-1) = _); rfl))
local macro_rules | `(tactic| fail "st") => `(tactic| first
  | (refine ⟨_, rfl, ?_⟩)
  | (refine ⟨_, _, rfl, rfl, ?_⟩)
  | (refine ⟨_, _, _, _, rfl, rfl, (by fail "sql"), (by fail "ati"), ?_⟩)
  | (refine ⟨_, _, _, _, rfl, rfl, (by fail "sqt"), (by fail "ati"), ?_⟩)
  | (refine ⟨_, _, _, _, rfl, rfl, (by fail "at"), rfl, ?_⟩)
  | (refine Or.inl ⟨_, _, _, _, rfl, rfl, (by fail "sql"), (by fail "ati"), ?_⟩)
  | (refine Or.inr (Or.inl ⟨_, _, _, _, rfl, rfl, (by fail "sqt"), (by fail "ati"), ?_⟩))
  | (refine ⟨_, _, _, _, rfl, (by fail "kd"), ?_⟩)
  | (refine ⟨_, _, rfl, Or.inl ⟨_, (by fail "sql"), rfl⟩, ?_⟩)
  | (refine ⟨_, _, rfl, Or.inr ⟨_, (by fail "sqt"), rfl⟩, ?_⟩)
  | (refine ⟨_, _, rfl, (by fail "sqt"), rfl, ?_⟩)
  | (refine ⟨_, _, rfl, (by fail "kd"), ?_⟩)
  | (refine ⟨_, _, rfl, (by fail "th"), ?_⟩)
  | (refine ⟨_, _, rfl, (by fail "sql"), ?_⟩)
  | (refine ⟨_, _, rfl, (by fail "sqt"), ?_⟩)
  | (refine ⟨(by fail "side"), ?_⟩)
  | (refine ⟨(by fail "pool"), ?_⟩)
  | (refine ⟨⟨_, (by fail "sqt")⟩, ?_⟩)
  | (refine ⟨⟨_, (by fail "sql")⟩, ?_⟩)
  | (refine ⟨_, _, rfl, ?_⟩)
  | (refine ⟨rfl, ?_⟩)
  | (refine ⟨_, _, _, _, _, rfl, L2.ClsV.ty _, Lw.Kd.ty (by fail "kd"), Lw.kit_k (by fail "kd") (by decide), ?_⟩))
namespace K09
open PySem PySem.Spec PyProof.Rows L2 Evl Lw
def topS (i : Nat) : Stmt := PySem.Challenge.pw_allscreens_k09_colours_turned.main.body.getD i (.Pass ⟨0, 0, 0, 0⟩)
abbrev s_InvalidColour___init__ : Stmt := inClass (topS 2) 0
abbrev N_InvalidColour___init__ : List Str := ["self", "value"]
theorem sc_InvalidColour___init__ : FnScope N_InvalidColour___init__ ["self", "value"] (defScope s_InvalidColour___init__) := ⟨rfl, rfl, rfl, by decide +kernel, rfl, by decide +kernel, by decide +kernel⟩
abbrev s_InvalidPairs___init__ : Stmt := inClass (topS 3) 0
abbrev N_InvalidPairs___init__ : List Str := ["self", "value"]
theorem sc_InvalidPairs___init__ : FnScope N_InvalidPairs___init__ ["self", "value"] (defScope s_InvalidPairs___init__) := ⟨rfl, rfl, rfl, by decide +kernel, rfl, by decide +kernel, by decide +kernel⟩
abbrev s_is_integer : Stmt := topS 6
abbrev N_is_integer : List Str := ["value"]
theorem sc_is_integer : FnScope N_is_integer ["value"] (defScope s_is_integer) := ⟨rfl, rfl, rfl, by decide +kernel, rfl, by decide +kernel, by decide +kernel⟩
theorem b_is_integer : Lw.Bnd "is_integer" s_is_integer ["value"] := fun _ _ _ _ _ _ us hl => match us, hl with | [_], _ => rfl
abbrev s_is_between : Stmt := topS 7
abbrev N_is_between : List Str := ["value", "low", "high"]
theorem sc_is_between : FnScope N_is_between ["value", "low", "high"] (defScope s_is_between) := ⟨rfl, rfl, rfl, by decide +kernel, rfl, by decide +kernel, by decide +kernel⟩
theorem b_is_between : Lw.Bnd "is_between" s_is_between ["value", "low", "high"] := fun _ _ _ _ _ _ us hl => match us, hl with | [_, _, _], _ => rfl
abbrev s_is_colour : Stmt := topS 8
abbrev N_is_colour : List Str := ["value"]
theorem sc_is_colour : FnScope N_is_colour ["value"] (defScope s_is_colour) := ⟨rfl, rfl, rfl, by decide +kernel, rfl, by decide +kernel, by decide +kernel⟩
theorem b_is_colour : Lw.Bnd "is_colour" s_is_colour ["value"] := fun _ _ _ _ _ _ us hl => match us, hl with | [_], _ => rfl
abbrev s_check_colour : Stmt := topS 9
abbrev N_check_colour : List Str := ["value"]
theorem sc_check_colour : FnScope N_check_colour ["value"] (defScope s_check_colour) := ⟨rfl, rfl, rfl, by decide +kernel, rfl, by decide +kernel, by decide +kernel⟩
theorem b_check_colour : Lw.Bnd "check_colour" s_check_colour ["value"] := fun _ _ _ _ _ _ us hl => match us, hl with | [_], _ => rfl
abbrev s_is_pair : Stmt := topS 11
abbrev N_is_pair : List Str := ["value"]
theorem sc_is_pair : FnScope N_is_pair ["value"] (defScope s_is_pair) := ⟨rfl, rfl, rfl, by decide +kernel, rfl, by decide +kernel, by decide +kernel⟩
theorem b_is_pair : Lw.Bnd "is_pair" s_is_pair ["value"] := fun _ _ _ _ _ _ us hl => match us, hl with | [_], _ => rfl
abbrev s_is_pairs : Stmt := topS 12
abbrev N_is_pairs : List Str := ["value", "index", "pair"]
theorem sc_is_pairs : FnScope N_is_pairs ["value"] (defScope s_is_pairs) := ⟨rfl, rfl, rfl, by decide +kernel, rfl, by decide +kernel, by decide +kernel⟩
theorem b_is_pairs : Lw.Bnd "is_pairs" s_is_pairs ["value"] := fun _ _ _ _ _ _ us hl => match us, hl with | [_], _ => rfl
abbrev s_check_pairs : Stmt := topS 13
abbrev N_check_pairs : List Str := ["value"]
theorem sc_check_pairs : FnScope N_check_pairs ["value"] (defScope s_check_pairs) := ⟨rfl, rfl, rfl, by decide +kernel, rfl, by decide +kernel, by decide +kernel⟩
theorem b_check_pairs : Lw.Bnd "check_pairs" s_check_pairs ["value"] := fun _ _ _ _ _ _ us hl => match us, hl with | [_], _ => rfl
abbrev s_turned : Stmt := topS 14
abbrev N_turned : List Str := ["colour", "pairs"]
theorem sc_turned : FnScope N_turned ["colour", "pairs"] (defScope s_turned) := ⟨rfl, rfl, rfl, by decide +kernel, rfl, by decide +kernel, by decide +kernel⟩
theorem b_turned : Lw.Bnd "turned" s_turned ["colour", "pairs"] := fun _ _ _ _ _ _ us hl => match us, hl with | [_, _], _ => rfl
abbrev s_chained : Stmt := topS 15
abbrev N_chained : List Str := ["pairs", "other_pairs", "olds", "found", "old", "pair", "new"]
theorem sc_chained : FnScope N_chained ["pairs", "other_pairs"] (defScope s_chained) := ⟨rfl, rfl, rfl, by decide +kernel, rfl, by decide +kernel, by decide +kernel⟩
theorem b_chained : Lw.Bnd "chained" s_chained ["pairs", "other_pairs"] := fun _ _ _ _ _ _ us hl => match us, hl with | [_, _], _ => rfl
abbrev s_recoloured : Stmt := topS 16
abbrev N_recoloured : List Str := ["colour", "pairs"]
theorem sc_recoloured : FnScope N_recoloured ["colour", "pairs"] (defScope s_recoloured) := ⟨rfl, rfl, rfl, by decide +kernel, rfl, by decide +kernel, by decide +kernel⟩
theorem b_recoloured : Lw.Bnd "recoloured" s_recoloured ["colour", "pairs"] := fun _ _ _ _ _ _ us hl => match us, hl with | [_, _], _ => rfl
abbrev s_combined : Stmt := topS 17
abbrev N_combined : List Str := ["pairs", "other_pairs"]
theorem sc_combined : FnScope N_combined ["pairs", "other_pairs"] (defScope s_combined) := ⟨rfl, rfl, rfl, by decide +kernel, rfl, by decide +kernel, by decide +kernel⟩
theorem b_combined : Lw.Bnd "combined" s_combined ["pairs", "other_pairs"] := fun _ _ _ _ _ _ us hl => match us, hl with | [_, _], _ => rfl
abbrev s_law_cell : Stmt := topS 19
abbrev N_law_cell : List Str := ["_law_script", "_law_k", "_law_state_here", "_law_cell_here"]
theorem sc_law_cell : FnScope N_law_cell ["_law_script", "_law_k"] (defScope s_law_cell) := ⟨rfl, rfl, rfl, by decide +kernel, rfl, by decide +kernel, by decide +kernel⟩
theorem b_law_cell : Lw.Bnd "_law_cell" s_law_cell ["_law_script", "_law_k"] := fun _ _ _ _ _ _ us hl => match us, hl with | [_, _], _ => rfl
abbrev s_law_pool : Stmt := topS 20
abbrev N_law_pool : List Str := ["_law_cell_here", "_law_digits"]
theorem sc_law_pool : FnScope N_law_pool ["_law_cell_here"] (defScope s_law_pool) := ⟨rfl, rfl, rfl, by decide +kernel, rfl, by decide +kernel, by decide +kernel⟩
theorem b_law_pool : Lw.Bnd "_law_pool" s_law_pool ["_law_cell_here"] := fun _ _ _ _ _ _ us hl => match us, hl with | [_], _ => rfl
abbrev s_law_draw : Stmt := topS 21
abbrev N_law_draw : List Str := ["_law_pool_here", "_law_many", "_law_old", "_law_digit"]
theorem sc_law_draw : FnScope N_law_draw ["_law_pool_here", "_law_many"] (defScope s_law_draw) := ⟨rfl, rfl, rfl, by decide +kernel, rfl, by decide +kernel, by decide +kernel⟩
theorem b_law_draw : Lw.Bnd "_law_draw" s_law_draw ["_law_pool_here", "_law_many"] := fun _ _ _ _ _ _ us hl => match us, hl with | [_, _], _ => rfl
abbrev s_law_pairs : Stmt := topS 22
abbrev N_law_pairs : List Str := ["_law_pool_here", "_law_most", "_law_far", "_law_olds", "_law_k", "_law_old"]
theorem sc_law_pairs : FnScope N_law_pairs ["_law_pool_here", "_law_most", "_law_far"] (defScope s_law_pairs) := ⟨rfl, rfl, rfl, by decide +kernel, rfl, by decide +kernel, by decide +kernel⟩
theorem b_law_pairs : Lw.Bnd "_law_pairs" s_law_pairs ["_law_pool_here", "_law_most", "_law_far"] := fun _ _ _ _ _ _ us hl => match us, hl with | [_, _, _], _ => rfl
abbrev s_law_turned : Stmt := topS 23
abbrev N_law_turned : List Str := ["_law_hue", "_law_rows", "_law_old", "_law_new"]
theorem sc_law_turned : FnScope N_law_turned ["_law_hue", "_law_rows"] (defScope s_law_turned) := ⟨rfl, rfl, rfl, by decide +kernel, rfl, by decide +kernel, by decide +kernel⟩
theorem b_law_turned : Lw.Bnd "_law_turned" s_law_turned ["_law_hue", "_law_rows"] := fun _ _ _ _ _ _ us hl => match us, hl with | [_, _], _ => rfl
abbrev s_law_right : Stmt := topS 24
abbrev N_law_right : List Str := ["_law_pool_here", "_law_far", "_law_one", "_law_other", "_law_named", "_law_tried", "_law_hue", "_law_told", "_law_both", "_law_due", "_law_pair", "_law_k", "_law_new"]
theorem sc_law_right : FnScope N_law_right ["_law_pool_here", "_law_far"] (defScope s_law_right) := ⟨rfl, rfl, rfl, by decide +kernel, rfl, by decide +kernel, by decide +kernel⟩
theorem b_law_right : Lw.Bnd "_law_right" s_law_right ["_law_pool_here", "_law_far"] := fun _ _ _ _ _ _ us hl => match us, hl with | [_, _], _ => rfl
abbrev s_law : Stmt := topS 25
abbrev N_law : List Str := ["_law_script", "_law_k", "_law_pool_here", "_law_turn"]
theorem sc_law : FnScope N_law ["_law_script"] (defScope s_law) := ⟨rfl, rfl, rfl, by decide +kernel, rfl, by decide +kernel, by decide +kernel⟩
theorem b_law : Lw.Bnd "law" s_law ["_law_script"] := fun _ _ _ _ _ _ us hl => match us, hl with | [_], _ => rfl
def gk_bk_combined_0_other_pairs_pairs {α : Type} : List α → List α → List α | [], [z0, z1] => [z1, z0] | _, _ => []
theorem rk_bk_combined_0_other_pairs_pairs {vs zs : List V} {us ws : List Value} (a : Vals vs us) (b : Vals zs ws) : Vals (gk_bk_combined_0_other_pairs_pairs vs zs) (gk_bk_combined_0_other_pairs_pairs us ws) := by
  have la := Paired.length a
  have lb := Paired.length b
  by_cases h1 : vs.length = 0 ∧ zs.length = 2
  · obtain ⟨h1, h2⟩ := h1
    match vs, us, zs, ws, a, b, h1, h2 with
    | [], [], [_, _], [_, _], .nil, .cons k0 (.cons k1 (.nil)), _, _ => exact .cons k1 (.cons k0 (.nil))
  · have e1 : gk_bk_combined_0_other_pairs_pairs vs zs = [] := by
      unfold gk_bk_combined_0_other_pairs_pairs; split
      · exact absurd ⟨rfl, rfl⟩ h1
      · rfl
    have e2 : gk_bk_combined_0_other_pairs_pairs us ws = [] := by
      unfold gk_bk_combined_0_other_pairs_pairs; split
      · exact absurd ⟨la, lb⟩ h1
      · rfl
    rw [e1, e2]
    exact .nil
theorem bk_combined_0_other_pairs_pairs : Lw.BndK "combined" s_combined ["pairs", "other_pairs"] 0 ["other_pairs", "pairs"] (fun {_} => gk_bk_combined_0_other_pairs_pairs) := fun _ _ _ _ _ _ us ws h1 h2 => match us, h1, ws, h2 with | [], _, [_, _], _ => rfl
def gk_bk_recoloured_0_pairs_colour {α : Type} : List α → List α → List α | [], [z0, z1] => [z1, z0] | _, _ => []
theorem rk_bk_recoloured_0_pairs_colour {vs zs : List V} {us ws : List Value} (a : Vals vs us) (b : Vals zs ws) : Vals (gk_bk_recoloured_0_pairs_colour vs zs) (gk_bk_recoloured_0_pairs_colour us ws) := by
  have la := Paired.length a
  have lb := Paired.length b
  by_cases h1 : vs.length = 0 ∧ zs.length = 2
  · obtain ⟨h1, h2⟩ := h1
    match vs, us, zs, ws, a, b, h1, h2 with
    | [], [], [_, _], [_, _], .nil, .cons k0 (.cons k1 (.nil)), _, _ => exact .cons k1 (.cons k0 (.nil))
  · have e1 : gk_bk_recoloured_0_pairs_colour vs zs = [] := by
      unfold gk_bk_recoloured_0_pairs_colour; split
      · exact absurd ⟨rfl, rfl⟩ h1
      · rfl
    have e2 : gk_bk_recoloured_0_pairs_colour us ws = [] := by
      unfold gk_bk_recoloured_0_pairs_colour; split
      · exact absurd ⟨la, lb⟩ h1
      · rfl
    rw [e1, e2]
    exact .nil
theorem bk_recoloured_0_pairs_colour : Lw.BndK "recoloured" s_recoloured ["colour", "pairs"] 0 ["pairs", "colour"] (fun {_} => gk_bk_recoloured_0_pairs_colour) := fun _ _ _ _ _ _ us ws h1 h2 => match us, h1, ws, h2 with | [], _, [_, _], _ => rfl
theorem bt_abs : bootBuiltins "abs" = some (.builtin "abs") := by decide +kernel
theorem bt_all : bootBuiltins "all" = some (.builtin "all") := by decide +kernel
theorem bt_any : bootBuiltins "any" = some (.builtin "any") := by decide +kernel
theorem bt_bool : bootBuiltins "bool" = some (.type "bool") := by decide +kernel
theorem bt_dict : bootBuiltins "dict" = some (.type "dict") := by decide +kernel
theorem bt_divmod : bootBuiltins "divmod" = some (.builtin "divmod") := by decide +kernel
theorem bt_int : bootBuiltins "int" = some (.type "int") := by decide +kernel
theorem bt_isinstance : bootBuiltins "isinstance" = some (.builtin "isinstance") := by decide +kernel
theorem bt_len : bootBuiltins "len" = some (.builtin "len") := by decide +kernel
theorem bt_max : bootBuiltins "max" = some (.builtin "max") := by decide +kernel
theorem bt_min : bootBuiltins "min" = some (.builtin "min") := by decide +kernel
theorem bt_range : bootBuiltins "range" = some (.type "range") := by decide +kernel
theorem bt_sorted : bootBuiltins "sorted" = some (.builtin "sorted") := by decide +kernel
theorem bt_tuple : bootBuiltins "tuple" = some (.type "tuple") := by decide +kernel
/-- what stands behind the top -/
structure Txt (K : PySem.W.Frag) (mg : Str → Option Value) : Prop where
  d_is_integer : Lw.DefAt K mg "is_integer" s_is_integer
  d_is_between : Lw.DefAt K mg "is_between" s_is_between
  d_is_colour : Lw.DefAt K mg "is_colour" s_is_colour
  d_check_colour : Lw.DefAt K mg "check_colour" s_check_colour
  d_is_pair : Lw.DefAt K mg "is_pair" s_is_pair
  d_is_pairs : Lw.DefAt K mg "is_pairs" s_is_pairs
  d_check_pairs : Lw.DefAt K mg "check_pairs" s_check_pairs
  d_turned : Lw.DefAt K mg "turned" s_turned
  d_chained : Lw.DefAt K mg "chained" s_chained
  d_recoloured : Lw.DefAt K mg "recoloured" s_recoloured
  d_combined : Lw.DefAt K mg "combined" s_combined
  d_law_cell : Lw.DefAt K mg "_law_cell" s_law_cell
  d_law_pool : Lw.DefAt K mg "_law_pool" s_law_pool
  d_law_draw : Lw.DefAt K mg "_law_draw" s_law_draw
  d_law_pairs : Lw.DefAt K mg "_law_pairs" s_law_pairs
  d_law_turned : Lw.DefAt K mg "_law_turned" s_law_turned
  d_law_right : Lw.DefAt K mg "_law_right" s_law_right
  d_law : Lw.DefAt K mg "law" s_law
  b_abs : mg "abs" = none
  b_all : mg "all" = none
  b_any : mg "any" = none
  b_bool : mg "bool" = none
  b_dict : mg "dict" = none
  b_divmod : mg "divmod" = none
  b_int : mg "int" = none
  b_isinstance : mg "isinstance" = none
  b_len : mg "len" = none
  b_max : mg "max" = none
  b_min : mg "min" = none
  b_range : mg "range" = none
  b_sorted : mg "sorted" = none
  b_tuple : mg "tuple" = none
  g_MOST_COLOUR : ∃ u, mg "MOST_COLOUR" = some u ∧ RelV (.int 1000000000) u

end K09
namespace K09
open PySem PySem.Spec PyProof.Rows L2 Evl Lw
section
variable {P : Program} {w : World} {K : PySem.W.Frag} {mg : Str → Option Value} {base : Heap}
theorem c_law_draw (T : Txt K mg) : Cl P w K mg base CX0 1 "_law_draw" s_law_draw ["_law_pool_here", "_law_many"] spDraw := by
  refine Cl.pool (cl_of (sp := spDraw1) (k := 0) T.d_law_draw sc_law_draw (fun vs H Q E h => ?_) (fun f cdv A outer s H vs Q E hr h => ?_)) spDraw_of
  · obtain ⟨p, m, a, b, c, rfl, _⟩ := h
    rfl
  · obtain ⟨p, m, a, b, c, rfl, hp, h0, h1, q⟩ := h
    have nd := sc_law_draw.nd
    refine ⟨_, (pss_cons (ps_asg (pe_op op_add (pe_ix ix_seq (pv 0) pe_int (fun _ _ => rfl)) pe_int) (pg_sub (pv 0) pe_int set_list))
      (pss_cons (ps_set (i := 2) nd rfl (Or.inl rfl) (pe_ix ix_seq (pv 0) pe_int (fun _ _ => rfl)))
      (pss_cons (ps_asg (pe_op op_mod (pe_op op_add (pe_op op_add (pe_op op_mul (pv 2) (pe_op op_add (pe_op op_mod (pv 2) pe_int) pe_int)) (pe_op op_mul pe_int (pe_ix ix_seq (pv 0) pe_int (fun _ _ => rfl)))) pe_int) pe_int) (pg_sub (pv 0) pe_int set_list))
      (pss_cons (ps_if (pt_cmpR op_gt (pe_ix ix_seq (pv 0) pe_int (fun _ _ => rfl)) pe_int (nomark _)) (pss_cons (ps_asg (pe_callB (call_divmodW) (by rfl) T.b_divmod bt_divmod (pa_cons (pe_ix ix_seq (pv 0) pe_int (fun _ _ => rfl)) (pa_cons (pv 1) pa_nil))) (pg_tup rfl (pgs_cons (pg_sub (pv 0) pe_int set_list) (pgs_cons (pg_name (i := 3) nd rfl (Or.inl rfl)) pgs_nil))))
      (pss_one (ps_ret (pv 3)))) pss_nil)
      (pss_one (ps_ret (pe_op op_mod (pe_op op_fdiv (pe_ix ix_seq (pv 0) pe_int (fun _ _ => rfl)) pe_int) (pv 1)))))))), ?_⟩
    repeat fail "st"
    refine ifD (fun hb => ?_) (fun hb => ?_)
    · repeat fail "st"
      refine ⟨cdivp h0 h1, fun t ht => ?_⟩
      have np : p ≠ t := ne_of_none upd_same ht
      repeat fail "st"
      exact q _ _ _ _ _ (But.mut (But.new (But.mut (But.mut But.refl)) ht)) upd_same (Int.emod_nonneg _ (by omega)) (Int.emod_lt_of_pos _ h0)
    · repeat fail "st"
      exact q _ _ _ _ _ (But.mut (But.mut But.refl)) upd_same (Int.emod_nonneg _ (by omega)) (Int.emod_lt_of_pos _ h0)
theorem c_law_pool (T : Txt K mg) : Cl P w K mg base CX0 1 "_law_pool" s_law_pool ["_law_cell_here"] spPool := by
  refine Cl.newpool (cl_of (sp := spPool1) (k := 0) T.d_law_pool sc_law_pool (fun vs H Q E h => ?_) (fun f cdv A outer s H vs Q E hr h => ?_)) spPool_of
  · obtain ⟨i, rfl, _⟩ := h
    rfl
  · obtain ⟨i, rfl, q⟩ := h
    have nd := sc_law_pool.nd
    refine ⟨_, (pss_cons (ps_set (i := 1) nd rfl (Or.inl rfl) (pe_ifExp (PW.pt (pw_or (pt_cmpR op_lt (pv 0) pe_int (nomark _)) (pw_or1 (pt_cmpR op_ge (pv 0) (pe_op op_pow pe_int pe_int) (nomark _))))) (pe_callB (call_abs) (by rfl) T.b_abs bt_abs (pa_cons (pv 0) pa_nil)) pe_int))
      (pss_one (ps_ret (pe_lst (pa_cons (pe_op op_mod (pv 0) pe_int) (pa_cons (pv 1) (pa_cons pe_int pa_nil))))))), ?_⟩
    repeat fail "st"
    refine ifD (fun hb => ?_) (fun hb => ?_)
    · repeat fail "st"
      refine iteT (B := True) ?_
      repeat fail "st"
      exact fun t ht => q t _ _ _ _ ht upd_same (Ex.new ht)
    · repeat fail "st"
      refine ifD (fun hb => ?_) (fun hb => ?_)
      · repeat fail "st"

        exact fun t ht => q t _ _ _ _ ht upd_same (Ex.new ht)
      · repeat fail "st"
        exact fun t ht => q t _ _ _ _ ht upd_same (Ex.new ht)
theorem c_law_cell (T : Txt K mg) : Cl P w K mg base CX0 1 "_law_cell" s_law_cell ["_law_script", "_law_k"] (spCell K) := by
  refine cl_of (k := 0) T.d_law_cell sc_law_cell (fun vs H Q E h => ?_) (fun f cdv A outer s H vs Q E hr h => ?_)
  · obtain ⟨a, ns, i, rfl, _⟩ := h
    rfl
  · obtain ⟨a, ns, i, rfl, hS, hl, h0, h1, q⟩ := h
    have nd := sc_law_cell.nd
    refine ⟨_, (pss_cons (ps_if (pt_cmpR op_lt (pv 1) (pe_callB (call_len) (by rfl) T.b_len bt_len (pa_cons (pv 0) pa_nil)) (nomark _)) (pss_one (ps_ret (pe_ix ix_seq (pv 0) (pv 1) (fun _ _ => rfl)))) pss_nil)
      (pss_cons (ps_set (i := 2) nd rfl (Or.inl rfl) (pe_op op_mod (pe_op op_mul pe_int (pe_op op_add (pe_op op_add (pe_op op_mul (pv 1) (pv 1)) (pe_op op_mul pe_int (pv 1))) pe_int)) pe_int))
      (pss_cons (ps_for PassesOwn.never rfl (pi_list (pe_slice sl_list (pv 0) po_none (po_some pe_int))) (pg_name (i := 3) nd rfl (Or.inl rfl)) (pss_one (ps_set (i := 2) nd rfl (Or.inl rfl) (pe_op op_mod (pe_op op_add (pe_op op_mul (pv 2) pe_int) (pv 3)) pe_int))))
      (pss_one (ps_ret (pv 2)))))), ?_⟩
    repeat fail "st"
    refine ifD (fun hb => ?_) (fun hb => ?_)
    · rw [List.length_map] at hb
      obtain ⟨j, rfl⟩ := Int.eq_ofNat_of_zero_le h0
      have hj : j < ns.length := by omega
      have ga : atI (ns.map V.int) (j : Int) = some (.int ns[j]) := atI_nat (by rw [List.getElem?_map, List.getElem?_eq_getElem hj]; rfl)
      repeat fail "st"
      exact q _ _ (Ex.refl H)
    · repeat fail "st"
      intro c nc
      refine ⟨_, rfl, ⟨_, SqL.of upd_same⟩, ?_⟩
      refine for_list (xs := cutV (ns.map V.int) none (some 3)) (fun _ σ H' => ∃ (z : Int) (y : Option V), σ = [some (.ref a), some (.int i), some (.int z), y] ∧ H' = upd H c (.lst (cutV (ns.map V.int) none (some 3)))) ⟨_, _, rfl, rfl⟩ ?_ ?_ ?_
      · rintro _ _ _ _ ⟨z, y, rfl, rfl⟩
        exact SqL.of upd_same
      · rintro _ x _ _ hx ⟨z, y, rfl, rfl⟩
        obtain ⟨n, rfl⟩ := cut_int hx
        repeat fail "st"
        rfl
      · rintro _ _ ⟨z, y, rfl, rfl⟩
        repeat fail "st"
        exact q _ _ (Ex.new nc)
end

end K09
namespace K09
open PySem PySem.Spec PyProof.Rows L2 Evl Lw
section
variable {P : Program} {w : World} {K : PySem.W.Frag} {mg : Str → Option Value} {base : Heap}
theorem c_is_integer (T : Txt K mg) : Cl P w K mg base CX0 1 "is_integer" s_is_integer ["value"] spInteger := by
  refine cl_of (k := 0) T.d_is_integer sc_is_integer (fun vs H Q E h => ?_) (fun f cdv A outer s H vs Q E hr h => ?_)
  · obtain ⟨v, n, rfl, _⟩ := h
    rfl
  · obtain ⟨v, n, rfl, k, q⟩ := h
    have nd := sc_is_integer.nd
    refine ⟨_, (pss_one (ps_ret (pe_and (pe_callB (call_isi) (by rfl) T.b_isinstance bt_isinstance (pa_cons (pv 0) (pa_cons (pe_bltn (v := .ty "int") (by rfl) T.b_int bt_int rfl) pa_nil))) (pe_one (pe_not (pe_callB (call_isi) (by rfl) T.b_isinstance bt_isinstance (pa_cons (pv 0) (pa_cons (pe_bltn (v := .ty "bool") (by rfl) T.b_bool bt_bool rfl) pa_nil)))))))), ?_⟩
    repeat fail "st"
    refine ifB (fun h => ?_) (fun h => ?_)
    · repeat fail "st"
      rw [int_yes k h] at q
      exact q
    · rw [int_no h] at q
      exact q
theorem c_is_between (T : Txt K mg) : Cl P w K mg base CX0 2 "is_between" s_is_between ["value", "low", "high"] spBetween := by
  refine cl_of (k := 1) T.d_is_between sc_is_between (fun vs H Q E h => ?_) (fun f cdv A outer s H vs Q E hr h => ?_)
  · obtain ⟨v, lo, hi, n, rfl, _⟩ := h
    rfl
  · obtain ⟨v, lo, hi, n, rfl, k, q⟩ := h
    have nd := sc_is_between.nd
    refine ⟨_, (pss_one (ps_ret (pe_and (Lw.pe_cl (c_is_integer T) b_is_integer hr (by decide) (by rfl) pass0 (pa_cons (pv 0) pa_nil)) (pe_one (pe_chain op_le op_le (pv 1) (pv 0) (pv 2)))))), ?_⟩
    repeat fail "st"
    refine ifB (fun h => ?_) (fun h => ?_)
    · obtain ⟨i, rfl⟩ := k.of_int h
      repeat fail "st"
      refine ifD (fun h1 => ?_) (fun h1 => ?_)
      · repeat fail "st"
        rw [inB, decide_eq_true h1] at q
        exact q
      · rw [inB, decide_eq_false h1] at q
        exact q
    · rw [inB_no k h] at q
      exact q
def spColour : Sp := fun vs H Q _ => ∃ v n, vs = [v] ∧ Kd H v n ∧ Q (.bl (Lw.inB 0 1000000000 v)) H
theorem c_is_colour (T : Txt K mg) : Cl P w K mg base CX0 3 "is_colour" s_is_colour ["value"] spColour := by
  refine cl_of (k := 2) T.d_is_colour sc_is_colour (fun vs H Q E h => ?_) (fun f cdv A outer s H vs Q E hr h => ?_)
  · obtain ⟨v, n, rfl, _⟩ := h
    rfl
  · obtain ⟨v, n, rfl, k, q⟩ := h
    have nd := sc_is_colour.nd
    refine ⟨_, (pss_one (ps_ret (Lw.pe_cl (c_is_between T) b_is_between hr (by decide) (by rfl) pass0 (pa_cons (pv 0) (pa_cons pe_int (pa_cons (C8.pe_gc (by rfl) T.g_MOST_COLOUR) pa_nil)))))), ?_⟩
    repeat fail "st"
    exact q
theorem inB_col {c : Int} (h : Col c) : Lw.inB 0 1000000000 (.int c) = true := by
  show (decide (0 ≤ c) && decide (c ≤ 1000000000)) = true
  rw [decide_eq_true h.1, decide_eq_true h.2]; rfl
def spCkC : Sp := fun vs H Q _ => ∃ c, Col c ∧ vs = [.int c] ∧ Q .non H
theorem c_check_colour (T : Txt K mg) : Cl P w K mg base CX0 4 "check_colour" s_check_colour ["value"] spCkC := by
  refine cl_of (k := 3) T.d_check_colour sc_check_colour (fun vs H Q E h => ?_) (fun f cdv A outer s H vs Q E hr h => ?_)
  · obtain ⟨c, _, rfl, _⟩ := h
    rfl
  · obtain ⟨c, hc, rfl, q⟩ := h
    have nd := sc_check_colour.nd
    refine ⟨_, (pss_one (ps_if (pt_not (pt_val (Lw.pe_cl (c_is_colour T) b_is_colour hr (by decide) (by rfl) pass0 (pa_cons (pv 0) pa_nil)))) (pss_one Lw.ps_dead) pss_nil)), ?_⟩
    repeat fail "st"
    rw [inB_col hc]
    repeat fail "st"
    exact q
def spPair : Sp := fun vs H Q _ => ∃ r p, vs = [.ref r] ∧ RowAt H r p ∧ Col p.1 ∧ Col p.2 ∧ Q (.bl true) H
theorem c_is_pair (T : Txt K mg) : Cl P w K mg base CX0 4 "is_pair" s_is_pair ["value"] spPair := by
  refine cl_of (k := 3) T.d_is_pair sc_is_pair (fun vs H Q E h => ?_) (fun f cdv A outer s H vs Q E hr h => ?_)
  · obtain ⟨r, p, rfl, _⟩ := h
    rfl
  · obtain ⟨r, p, rfl, hp, h1, h2, q⟩ := h
    have nd := sc_is_pair.nd
    replace hp : H r = some (.tup [.int p.1, .int p.2]) := hp
    refine ⟨_, (pss_one (ps_ret (pe_and (pe_callB (call_isi) (by rfl) T.b_isinstance bt_isinstance (pa_cons (pv 0) (pa_cons (pe_bltn (v := .ty "tuple") (by rfl) T.b_tuple bt_tuple rfl) pa_nil))) (pe_and (pe_cmpR op_eq (pe_callB (call_len) (by rfl) T.b_len bt_len (pa_cons (pv 0) pa_nil)) pe_int (nomark _)) (pe_and (Lw.pe_cl (c_is_colour T) b_is_colour hr (by decide) (by rfl) pass0 (pa_cons (pe_ix ix_seq (pv 0) pe_int (fun _ _ => rfl)) pa_nil)) (pe_one (Lw.pe_cl (c_is_colour T) b_is_colour hr (by decide) (by rfl) pass0 (pa_cons (pe_ix ix_seq (pv 0) pe_int (fun _ _ => rfl)) pa_nil)))))))), ?_⟩
    repeat fail "st"
    rw [if_pos (inB_col h1)]
    repeat fail "st"
    rw [inB_col h2]
    exact q
def spPairs (r : V) : Sp := fun vs H Q _ => ∃ v ps, Tab H v ps ∧ vs = [v] ∧ Good ps ∧ ∀ H', Ex H H' → Q r H'
theorem c_is_pairs (T : Txt K mg) : Cl P w K mg base CX0 5 "is_pairs" s_is_pairs ["value"] (spPairs (.bl true)) := by
  refine cl_of (k := 4) T.d_is_pairs sc_is_pairs (fun vs H Q E h => ?_) (fun f cdv A outer s H vs Q E hr h => ?_)
  · obtain ⟨r, p, _, rfl, _⟩ := h
    rfl
  · obtain ⟨v, ps, ⟨a, qs, rfl, ht, hr0⟩, rfl, hg, q⟩ := h
    have nd := sc_is_pairs.nd
    have ⟨o, hd, ho⟩ := ht
    have ll := hr0.len
    refine ⟨_, (pss_cons (ps_if (PW.pt (pw_or (pt_not (pt_val (pe_callB (call_isi) (by rfl) T.b_isinstance bt_isinstance (pa_cons (pv 0) (pa_cons (pe_bltn (v := .ty "tuple") (by rfl) T.b_tuple bt_tuple rfl) pa_nil))))) (pw_or1 (pt_not (pt_val (pe_callB (cr_all rfl) (by rfl) T.b_all bt_all (pa_cons (pe_lc (own := [("pair", 2)]) (g := gName 2) (tt := tYes) rfl nd (pi_tup (pv 0)) (L2.blkOk_by (N := N_is_pairs) (sc := defScope s_is_pairs) (by decide +kernel)) (fun _ _ _ _ _ => (pg_name (i := 2) nd rfl (Or.inl rfl))) (fun _ _ _ _ _ => pts_nil) (fun _ _ _ _ _ => (Lw.pe_cl (c_is_pair T) b_is_pair hr (by decide) (by rfl) pass0 (pa_cons (pv 2) pa_nil)))) pa_nil))))))) (pss_one (ps_ret pe_bl)) pss_nil)
      (pss_one (ps_ret (pe_callB (cr_all rfl) (by rfl) T.b_all bt_all (pa_cons (pe_lc (own := [("index", 1)]) (g := gName 1) (tt := tYes) rfl nd (pi_range1 (by rfl) T.b_range (pa_cons (pe_op op_sub (pe_callB (call_len) (by rfl) T.b_len bt_len (pa_cons (pv 0) pa_nil)) pe_int) pa_nil)) (L2.blkOk_by (N := N_is_pairs) (sc := defScope s_is_pairs) (by decide +kernel)) (fun _ _ _ _ _ => (pg_name (i := 1) nd rfl (Or.inl rfl))) (fun _ _ _ _ _ => pts_nil) (fun _ _ _ _ _ => (pe_cmpR op_lt (pe_ix (ix_seq : IxR _ (rIx K)) (pe_ix (ix_seq : IxR _ (rIx K)) (pv 0) (pv 1) (fun _ _ => rfl)) pe_int (fun _ _ => rfl)) (pe_ix (ix_seq : IxR _ (rIx K)) (pe_ix (ix_seq : IxR _ (rIx K)) (pv 0) (pe_op op_add (pv 1) pe_int) (fun _ _ => rfl)) pe_int (fun _ _ => rfl)) (nomark _)))) pa_nil))))), ?_⟩
    repeat fail "st"
    intro D hD
    refine lcT (All fun _ v _ => v = V.bl true) (all_mono fun _ _ _ _ _ h => h) hD ht.sq (by rw [List.length_map, ll]; exact Nat.le_trans hg.len (by decide)) (fun i x hi H' e Q1 Q2 q1 q2 => ?_) (fun H1 os e1 hl1 hD1 hp1 => ?_)
    · obtain ⟨r, p, rfl, _, hp, ra⟩ := rows_at' hr0 hi
      have hc := hg.col p (List.mem_of_getElem? hp)
      repeat fail "st"
      refine ⟨_, _, rfl, e _ _ ra, hc.1, hc.2, ?_⟩
      exact q1 _ _ (Ex.refl _) ⟨_, rfl, rfl⟩
    · obtain ⟨ys, ey, ly, hy⟩ := All.end hp1
      rw [ey] at hD1
      obtain ⟨bs, eb, hb⟩ := all_true (ys := ys) (fun y hy1 => by
        obtain ⟨i, hi, e⟩ := List.getElem_of_mem hy1
        exact hy i y (by rw [List.getElem?_eq_getElem hi, e]))
      subst eb
      refine ⟨_, _, rfl, SqL.of hD1, ?_⟩
      rw [hb]
      repeat fail "st"
      have hlen := hg.len
      refine ⟨by rw [List.length_map, ll]; omega, ?_⟩
      intro D2 hD2
      have ht1 := ht.up e1
      have hr1 := hr0.up e1
      refine lcR (All fun _ v _ => v = V.bl true) (all_mono fun _ _ _ _ _ h => h) hD2 (by rw [List.length_map, ll]; omega) (fun i hi H' e Q1 Q2 q1 q2 => ?_) (fun H2 os e2 hl2 hD2 hp2 => ?_)
      · rw [List.length_map, ll] at hi
        have li : i < ps.length := by omega
        have lj : i + 1 < ps.length := by omega
        obtain ⟨r1, g1, a1⟩ := rows_ref (hr1.up e) li
        obtain ⟨r2, g2, a2⟩ := rows_ref (hr1.up e) lj
        repeat fail "st"
        show rIx K _ _ _ _
        have sq := (ht1.up e).sq (K := K)
        have ei : (0 + (i : Int)) = ((i : Nat) : Int) := by omega
        have ei2 : (0 + (i : Int)) + 1 = ((i + 1 : Nat) : Int) := by omega
        refine ixT_at (K := K) (H := H') (p := a) sq ei g1 ?_
        repeat fail "st"
        show rIx K _ _ _ _
        refine ixT_at (K := K) (H := H') (p := a) sq ei2 g2 ?_
        repeat fail "st"
        refine q1 _ _ (Ex.refl _) ⟨_, rfl, congrArg V.bl (decide_eq_true (hg.at li lj (by omega)))⟩
      · obtain ⟨ys, ey, ly, hy⟩ := All.end hp2
        rw [ey] at hD2
        obtain ⟨bs2, eb, hb2⟩ := all_true (ys := ys) (fun y hy1 => by
          obtain ⟨i, hi, e⟩ := List.getElem_of_mem hy1
          exact hy i y (by rw [List.getElem?_eq_getElem hi, e]))
        subst eb
        refine ⟨_, _, rfl, SqL.of hD2, ?_⟩
        rw [hb2]
        exact q _ (e1.trans e2)
theorem c_check_pairs (T : Txt K mg) : Cl P w K mg base CX0 6 "check_pairs" s_check_pairs ["value"] (spPairs .non) := by
  refine cl_of (k := 5) T.d_check_pairs sc_check_pairs (fun vs H Q E h => ?_) (fun f cdv A outer s H vs Q E hr h => ?_)
  · obtain ⟨r, p, _, rfl, _⟩ := h
    rfl
  · obtain ⟨v, ps, ht, rfl, hg, q⟩ := h
    have nd := sc_check_pairs.nd
    refine ⟨_, (pss_one (ps_if (pt_not (pt_val (Lw.pe_cl (c_is_pairs T) b_is_pairs hr (by decide) (by rfl) pass0 (pa_cons (pv 0) pa_nil)))) (pss_one Lw.ps_dead) pss_nil)), ?_⟩
    repeat fail "st"
    refine ⟨_, _, ht, rfl, hg, fun H' e => ?_⟩
    repeat fail "st"
    exact q _ e
def spTurned : Sp := fun vs H Q _ => ∃ c v ps, Tab H v ps ∧ vs = [.int c, v] ∧ Good ps ∧ ∀ H', Ex H H' → Q (.int (look ps c)) H'
theorem c_turned (T : Txt K mg) : Cl P w K mg base CX0 1 "turned" s_turned ["colour", "pairs"] spTurned := by
  refine cl_of (k := 0) T.d_turned sc_turned (fun vs H Q E h => ?_) (fun f cdv A outer s H vs Q E hr h => ?_)
  · obtain ⟨c, v, ps, _, rfl, _⟩ := h
    rfl
  · obtain ⟨c, v, ps, ⟨a, qs, rfl, ht, hr0⟩, rfl, hg, q⟩ := h
    have nd := sc_turned.nd
    refine ⟨_, (pss_one (ps_ret (pe_dget2 (Lw.u1 hr.units) (pe_callTy (Lw.cr_dictT rfl) (by rfl) T.b_dict bt_dict (pa_cons (pv 1) pa_nil)) (pv 0) (pv 0) ⟨rfl, rfl, rfl, rfl⟩))), ?_⟩
    repeat fail "st"
    refine ⟨_, _, _, rfl, ht, hr0, ?_⟩
    intro d n_d
    generalize hh : upd _ d _ = H_d
    have e_d := newEx hh n_d
    have h_d := newAt hh
    clear hh
    have md : H_d d = some (.dK (kvI ps)) := by
      have e : mergeK [] (kvI ps) = kvI ps := merge_asc (κ := Unit) (acc := []) hg.ne
      rw [h_d, e]
    refine ⟨_, rfl, .inl ⟨_, .inl md⟩, ?_⟩
    repeat fail "st"
    refine ⟨_, .inl ⟨_, .inl c, .inl md, rfl, rfl⟩, ?_⟩
    rw [val_look]
    exact q _ e_d
def spRec : Sp := fun vs H Q _ => ∃ c v ps, Tab H v ps ∧ vs = [.int c, v] ∧ Col c ∧ Good ps ∧ ∀ H', Ex H H' → Q (.int (look ps c)) H'
theorem c_recoloured (T : Txt K mg) : Cl P w K mg base CX0 7 "recoloured" s_recoloured ["colour", "pairs"] spRec := by
  refine cl_of (k := 6) T.d_recoloured sc_recoloured (fun vs H Q E h => ?_) (fun f cdv A outer s H vs Q E hr h => ?_)
  · obtain ⟨c, v, ps, _, rfl, _⟩ := h
    rfl
  · obtain ⟨c, v, ps, ht, rfl, hc, hg, q⟩ := h
    have nd := sc_recoloured.nd
    refine ⟨_, (pss_cons (ps_expr (Lw.pe_cl (c_check_colour T) b_check_colour hr (by decide) (by rfl) pass0 (pa_cons (pv 0) pa_nil)))
      (pss_cons (ps_expr (Lw.pe_cl (c_check_pairs T) b_check_pairs hr (by decide) (by rfl) pass0 (pa_cons (pv 1) pa_nil)))
      (pss_one (ps_ret (Lw.pe_cl (c_turned T) b_turned hr (by decide) (by rfl) pass0 (pa_cons (pv 0) (pa_cons (pv 1) pa_nil))))))), ?_⟩
    repeat fail "st"
    refine ⟨_, hc, rfl, ?_⟩
    repeat fail "st"
    refine ⟨_, _, ht, rfl, hg, fun H1 e1 => ?_⟩
    repeat fail "st"
    refine ⟨_, _, _, ht.up e1, rfl, hg, fun H2 e2 => ?_⟩
    exact q _ (e1.trans e2)
def spChain : Sp := fun vs H Q _ => ∃ v u ps rs, Tab H v ps ∧ Tab H u rs ∧ vs = [v, u] ∧ Good ps ∧ Good rs ∧ ps.length + rs.length ≤ 60 ∧ ∀ x ts H', Ex H H' → Tab H' x ts → IsChain ps rs ts → Q x H'
theorem c_chained (T : Txt K mg) : Cl P w K mg base CX0 2 "chained" s_chained ["pairs", "other_pairs"] spChain := by
  refine cl_of (k := 1) T.d_chained sc_chained (fun vs H Q E h => ?_) (fun f cdv A outer s H vs Q E hr h => ?_)
  · obtain ⟨v, u, ps, rs, _, _, rfl, _⟩ := h
    rfl
  · obtain ⟨v, u, ps, rs, ⟨a, qs, rfl, ta, ra⟩, ⟨b, qs', rfl, tb, rb⟩, rfl, ga, gb, hl, q⟩ := h
    have nd := sc_chained.nd
    refine ⟨_, (pss_cons (ps_set (i := 2) nd rfl (Or.inl rfl) (pe_callB (cr_sortedSet rfl) (by rfl) T.b_sorted bt_sorted (pa_cons (Lw.pe_scI (own := [("pair", 5)]) (g := gName 5) (tt := tYes) rfl nd (pi_tup (pe_op op_catA (pv 0) (pv 1))) (L2.blkOk_by (N := N_chained) (sc := defScope s_chained) (by decide +kernel)) (fun _ _ _ _ _ => (pg_name (i := 5) nd rfl (Or.inl rfl))) (fun _ _ _ _ _ => pts_nil) (fun _ _ _ _ _ => (pe_ix (ix_seq : IxR _ (rIx K)) (pv 5) pe_int (fun _ _ => rfl)))) pa_nil)))
      (pss_cons (ps_setLc (own := [("old", 4)]) (g := gName 4) (tt := tYes) (i := 3) rfl nd rfl rfl (sw_true rfl rfl rfl (by decide +kernel)) (pi_list (pv 2)) (L2.blkOk_by (N := N_chained) (sc := defScope s_chained) (by decide +kernel)) (fun _ _ _ _ _ => (pg_name (i := 4) nd rfl (Or.inl rfl))) (fun _ _ _ _ _ => pts_nil) (fun _ _ _ _ _ => (pe_tup (pa_cons (pv 4) (pa_cons (Lw.pe_cl (c_turned T) b_turned hr (by decide) (by rfl) pass0 (pa_cons (Lw.pe_cl (c_turned T) b_turned hr (by decide) (by rfl) pass0 (pa_cons (pv 4) (pa_cons (pv 0) pa_nil))) (pa_cons (pv 1) pa_nil))) pa_nil)))))
      (pss_one (ps_ret (pe_callTy (Lw.cr_tupF) (by rfl) T.b_tuple bt_tuple (pa_cons (pe_lc (own := [("old", 4), ("new", 6)]) (g := gTup K 2 (gCons (gName 4) (gCons (gName 6) (gNil)))) rfl nd (pi_list (pv 3)) (L2.blkOk_by (N := N_chained) (sc := defScope s_chained) (by decide +kernel)) (fun _ _ _ _ _ => (pg_tup rfl (pgs_cons (pg_name (i := 4) nd rfl (Or.inl rfl)) (pgs_cons (pg_name (i := 6) nd rfl (Or.inl rfl)) pgs_nil)))) (fun _ _ _ _ _ => (pts_one (pt_cmpR op_ne (pv 4) (pv 6) (nomark _)))) (fun _ _ _ _ _ => (pe_tup (pa_cons (pv 4) (pa_cons (pv 6) pa_nil))))) pa_nil)))))), ?_⟩
    have l1 := ra.len
    have l2 := rb.len
    repeat fail "st"
    refine catT ta.sq tb.sq (by rw [List.length_map, List.length_map, l1, l2]; omega) fun c H0 e0 hc => ?_
    rw [← List.map_append] at hc
    have rc := (ra.app rb).up e0
    repeat fail "st"
    intro D hD
    refine scT (fun v => (kOf H0 v).1) hD hc (by rw [List.length_map, rc.len, List.length_append]; omega) (fun i x hi H' e Q1 q1 => ?_) (fun H1 S n e1 hS hk hn => ?_)
    · obtain ⟨r, p, rfl, _, hp, rp⟩ := rows_at' rc hi
      have rp' := rp.up e
      repeat fail "st"
      have z := q1 H' (Ex.refl _)
      rw [kOf_row rp] at z
      exact z
    · rw [List.length_map, rc.len, List.length_append] at hn
      refine ⟨_, _, _, rfl, hS, by omega, fun ns d hs hm hln hd => ?_⟩
      have mem : ∀ k, k ∈ ns ↔ ∃ p ∈ ps ++ rs, p.1 = k := fun k => by
        rw [hm, hk, rows_get rc]
        constructor
        · rintro ⟨x, m, e⟩
          obtain ⟨y, m', rfl⟩ := List.mem_map.mp m
          exact ⟨_, List.mem_map.mpr ⟨y, m', rfl⟩, e⟩
        · rintro ⟨x, m, e⟩
          obtain ⟨y, m', rfl⟩ := List.mem_map.mp m
          exact ⟨_, List.mem_map.mpr ⟨y, m', rfl⟩, e⟩
      have ch := chain_mk (ps := ps) (rs := rs) hs mem (by omega)
      generalize hh : upd H1 d _ = H2
      have e2 := newEx hh hd
      have h2 := newAt hh
      clear hh
      have ta2 := (ta.up e0).up (e1.trans e2)
      have tb2 := (tb.up e0).up (e1.trans e2)
      have ra2 := (ra.up e0).up (e1.trans e2)
      have rb2 := (rb.up e0).up (e1.trans e2)
      have ln : ns.length ≤ 60 := by omega
      clear hS hln mem hm hk rc hc ta tb
      repeat fail "st"
      intro D3 hD3
      refine lcL (All fun i v H => ∃ q k, v = .ref q ∧ ns[i]? = some k ∧ RowAt H q (k, look rs (look ps k))) (all_mono fun i v H H' e ⟨q, k, a, b, c⟩ => ⟨q, k, a, b, e _ _ (fun xs => by intro z; cases z) c⟩) hD3 (SqL.of h2) (by rw [List.length_map]; omega) (fun i x hi H' e Q1 Q2 q1 q2 => ?_) (fun H3 os e3 hl3 hD3 hp3 => ?_)
      · rw [List.getElem?_map] at hi
        obtain ⟨k, hk, rfl⟩ : ∃ k, ns[i]? = some k ∧ V.int k = x := by
          cases hz : ns[i]? with
          | none => rw [hz] at hi; cases hi
          | some k => rw [hz] at hi; exact ⟨k, rfl, Option.some.inj hi⟩
        repeat fail "st"
        refine ⟨_, _, ps, ⟨_, _, rfl, ta2.up e, ra2.up e⟩, rfl, ga, fun H4 e4 => ?_⟩
        repeat fail "st"
        refine ⟨_, _, rs, ⟨_, _, rfl, (tb2.up e).up e4, (rb2.up e).up e4⟩, rfl, gb, fun H5 e5 => ?_⟩
        repeat fail "st"
        intro t n_t
        generalize hh : upd _ t _ = H_t
        have e_t := newEx hh n_t
        have h_t := newAt hh
        clear hh
        exact q1 _ _ (e4.trans (e5.trans e_t)) ⟨_, rfl, _, _, rfl, hk, h_t⟩
      · obtain ⟨ys, ey, ly, hy⟩ := All.end hp3
        rw [ey] at hD3
        obtain ⟨ks, rfl, rk⟩ := rows_of_all (H := H3) (ys := ys) (fs := ns.map fun k => (k, look rs (look ps k))) (by rw [ly, hl3, List.length_map, List.length_map]) fun i y e => by
          obtain ⟨q, k, a, b, c⟩ := hy i y e
          exact ⟨q, _, a, by rw [List.getElem?_map, b]; rfl, c⟩
        have lk : (ks.map V.ref).length ≤ 60 := by rw [ly, hl3, List.length_map]; exact ln
        clear hy ey hp3
        repeat fail "st"
        intro D4 hD4
        refine lcL (SiftP (ns.map fun k => (k, look rs (look ps k)))) (sift_mono _) hD4 (SqL.of hD3) (by omega) (fun i x hi H' e Q1 Q2 q1 q2 => ?_) (fun H4 os4 e4 hl4 hD4 hp4 => ?_)
        · obtain ⟨r, p, rfl, _, hp, rp⟩ := rows_at' rk hi
          have rp' := rp.up e
          repeat fail "st"
          refine ifNt (fun hd => ?_) (fun hd => ?_)
          · have ne : p.1 ≠ p.2 := fun z => of_decide_eq_false hd (congrArg V.int z)
            repeat fail "st"
            intro t n_t
            generalize hh : upd _ t _ = H_t
            have e_t := newEx hh n_t
            have h_t := newAt hh
            clear hh
            exact q1 _ _ e_t ⟨p, hp, .inl ⟨ne, _, rfl, h_t⟩⟩
          · exact q2 _ (Ex.refl _) ⟨p, hp, .inr ⟨V.int.inj (of_decide_eq_true hd), rfl⟩⟩
        · obtain ⟨js, ej, rj⟩ := sift_all (fs := ns.map fun k => (k, look rs (look ps k))) (by rw [hl4, rk.len.symm, List.length_map]) hp4
          rw [ej] at hD4
          refine ⟨_, _, rfl, SqL.of hD4, fun l o hl ho => ?_⟩
          refine q _ _ _ (e0.trans (e1.trans (e2.trans (e3.trans (e4.trans (Ex.new hl)))))) ⟨l, js, rfl, ⟨o, ho, upd_same⟩, rj.up (Ex.new hl)⟩ ch
theorem c_combined (T : Txt K mg) : Cl P w K mg base CX0 7 "combined" s_combined ["pairs", "other_pairs"] spChain := by
  refine cl_of (k := 6) T.d_combined sc_combined (fun vs H Q E h => ?_) (fun f cdv A outer s H vs Q E hr h => ?_)
  · obtain ⟨v, u, ps, rs, _, _, rfl, _⟩ := h
    rfl
  · obtain ⟨v, u, ps, rs, ta, tb, rfl, ga, gb, hl, q⟩ := h
    have nd := sc_combined.nd
    refine ⟨_, (pss_cons (ps_expr (Lw.pe_cl (c_check_pairs T) b_check_pairs hr (by decide) (by rfl) pass0 (pa_cons (pv 0) pa_nil)))
      (pss_cons (ps_expr (Lw.pe_cl (c_check_pairs T) b_check_pairs hr (by decide) (by rfl) pass0 (pa_cons (pv 1) pa_nil)))
      (pss_one (ps_ret (Lw.pe_cl (c_chained T) b_chained hr (by decide) (by rfl) pass0 (pa_cons (pv 0) (pa_cons (pv 1) pa_nil))))))), ?_⟩
    repeat fail "st"
    refine ⟨_, _, ta, rfl, ga, fun H1 e1 => ?_⟩
    repeat fail "st"
    refine ⟨_, _, tb.up e1, rfl, gb, fun H2 e2 => ?_⟩
    repeat fail "st"
    refine ⟨_, _, _, _, (ta.up e1).up e2, (tb.up e1).up e2, rfl, ga, gb, hl, fun x ts H3 e3 ht hc => ?_⟩
    exact q _ _ _ (e1.trans (e2.trans e3)) ht hc
def spRows : Sp := fun vs H Q _ => ∃ c v ps, Tab H v ps ∧ vs = [.int c, v] ∧ Q (.int (look ps c)) H
theorem c_law_turned (T : Txt K mg) : Cl P w K mg base CX0 1 "_law_turned" s_law_turned ["_law_hue", "_law_rows"] spRows := by
  refine cl_of (k := 0) T.d_law_turned sc_law_turned (fun vs H Q E h => ?_) (fun f cdv A outer s H vs Q E hr h => ?_)
  · obtain ⟨c, v, ps, _, rfl, _⟩ := h
    rfl
  · obtain ⟨c, v, ps, ⟨a, qs, rfl, ta, ra⟩, rfl, q⟩ := h
    have nd := sc_law_turned.nd
    refine ⟨_, (pss_cons (ps_for PassesOwn.never rfl (pi_tup (pv 1)) (pg_tup rfl (pgs_cons (pg_name (i := 2) nd rfl (Or.inl rfl)) (pgs_cons (pg_name (i := 3) nd rfl (Or.inl rfl)) pgs_nil))) (pss_one (ps_if (pt_cmpR op_eq (pv 2) (pv 0) (nomark _)) (pss_one (ps_ret (pv 3))) pss_nil)))
      (pss_one (ps_ret (pv 0)))), ?_⟩
    repeat fail "st"
    refine for_tup (xs := qs.map V.ref) (fun i σ H' => ∃ y z, σ = [some (.int c), some (.ref a), y, z] ∧ H' = H ∧ ∀ p ∈ ps.take i, p.1 ≠ c) ⟨_, _, rfl, rfl, fun p m => by simp at m⟩ ?_ ?_ ?_
    · rintro _ _ _ _ ⟨y, z, rfl, rfl, _⟩
      exact ta.sq
    · rintro i x _ _ hx ⟨y, z, rfl, rfl, no⟩
      obtain ⟨r, p, rfl, _, hp, rp⟩ := rows_at' ra hx
      repeat fail "st"
      refine ifD (fun hb => ?_) (fun hb => ?_)
      · repeat fail "st"
        rw [look_at hp no (V.int.inj hb)] at q
        exact q
      · refine ⟨_, _, rfl, rfl, fun p' m => ?_⟩
        rw [List.take_add_one, hp] at m
        rcases List.mem_append.mp m with m | m
        · exact no p' m
        · obtain rfl : p' = p := by simpa using m
          exact fun z => hb (congrArg V.int z)
    · rintro _ _ ⟨y, z, rfl, rfl, no⟩
      repeat fail "st"
      rw [look_no (fun p m => no p (by rw [List.length_map, ra.len, List.take_length]; exact m))] at q
      exact q
end

end K09
namespace K09
open PySem PySem.Spec PyProof.Rows L2 Evl Lw
section
variable {P : Program} {w : World} {K : PySem.W.Frag} {mg : Str → Option Value} {base : Heap}
def spMk : Sp := fun vs H Q _ => ∃ p m far, vs = [.ref p, .int m, .int far] ∧ Pool H p ∧ m = 5 ∧ 1 ≤ far ∧ far ≤ 1000000000 ∧ ∀ v ps H', Ex H H' → Tab H' v ps → Good ps → ps.length ≤ 5 → Q v H'
theorem c_law_pairs (T : Txt K mg) : Cl P w K mg base CX0 2 "_law_pairs" s_law_pairs ["_law_pool_here", "_law_most", "_law_far"] spMk := by
  refine cl_of (k := 1) T.d_law_pairs sc_law_pairs (fun vs H Q E h => ?_) (fun f cdv A outer s H vs Q E hr h => ?_)
  · obtain ⟨p, m, far, rfl, _⟩ := h
    rfl
  · obtain ⟨p, m, far, rfl, hp, rfl, f0, f1, q⟩ := h
    have nd := sc_law_pairs.nd
    refine ⟨_, (pss_cons (ps_set (i := 3) nd rfl (Or.inl rfl) (pe_lst pa_nil))
      (pss_cons (ps_for PassesOwn.never rfl (pi_range1 (by rfl) T.b_range (pa_cons (Lw.pe_cl (c_law_draw T) b_law_draw hr (by decide) (by rfl) pass0 (pa_cons (pv 0) (pa_cons (pe_op op_add (pv 1) pe_int) pa_nil))) pa_nil)) (pg_name (i := 4) nd rfl (Or.inl rfl)) (pss_cons (ps_set (i := 5) nd rfl (Or.inl rfl) (Lw.pe_cl (c_law_draw T) b_law_draw hr (by decide) (by rfl) pass0 (pa_cons (pv 0) (pa_cons (pv 2) pa_nil))))
      (pss_one (ps_set (i := 3) nd rfl (Or.inl rfl) (pe_ifExp (pt_cmpR op_in_seq (pv 5) (pv 3) (by rfl)) (pv 3) (pe_op op_cat (pv 3) (pe_lst (pa_cons (pv 5) pa_nil))))))))
      (pss_one (ps_ret (pe_callTy (Lw.cr_tupF) (by rfl) T.b_tuple bt_tuple (pa_cons (pe_lc (own := [("_law_old", 5)]) (g := gName 5) (tt := tYes) rfl nd (pi_list (pe_callB (cr_sortedI) (by rfl) T.b_sorted bt_sorted (pa_cons (pv 3) pa_nil))) (L2.blkOk_by (N := N_law_pairs) (sc := defScope s_law_pairs) (by decide +kernel)) (fun _ _ _ _ _ => (pg_name (i := 5) nd rfl (Or.inl rfl))) (fun _ _ _ _ _ => pts_nil) (fun _ _ _ _ _ => (pe_tup (pa_cons (pv 5) (pa_cons (Lw.pe_cl (c_law_draw T) b_law_draw hr (by decide) (by rfl) pass0 (pa_cons (pv 0) (pa_cons (pv 2) pa_nil))) pa_nil))))) pa_nil)))))), ?_⟩
    repeat fail "st"
    intro l hl
    repeat fail "st"
    intro d Hd ed d0 d1
    repeat fail "st"
    refine for_range (fun i σ H' => ∃ l y z, ∃ ns : List Int, σ = [some (.ref p), some (.int 5), some (.int far), some (.ref l), y, z] ∧ Ex H H' ∧ H' l = some (.lst (ns.map V.int)) ∧ ns.Nodup ∧ ns.length ≤ i ∧ ∀ k ∈ ns, 0 ≤ k ∧ k < far) ?_ ?_ ?_
    · exact ⟨l, _, _, [], rfl, (Ex.new hl).trans ed, ed _ _ upd_same, .nil, Nat.le_refl _, fun k m => by simp at m⟩
    · rintro i _ H1 hi ⟨l, y, z, ns, rfl, e1, hl1, hnd, hle, hns⟩
      have hp1 := hp.up e1
      repeat fail "st"
      intro k Hk ek k0 k1
      have hl2 := ek _ _ hl1
      repeat fail "st"
      refine in_ints (SqL.of hl2) ?_
      repeat fail "st"
      refine ifD (fun hb => ?_) (fun hb => ?_)
      · repeat fail "st"
        exact ⟨l, _, _, ns, rfl, e1.trans ek, hl2, hnd, by omega, hns⟩
      · repeat fail "st"
        intro t n_t
        generalize hh : upd _ t _ = H_t
        have e_t := newEx hh n_t
        have h_t := newAt hh
        clear hh
        have hl3 := e_t _ _ hl2
        repeat fail "st"
        refine ⟨_, _, _, _, rfl, rfl, hl3, h_t, ?_, ?_⟩
        · rw [List.length_map]
          exact Nat.le_trans (show ns.length + 1 ≤ 1000 by omega) (by decide)
        intro c n_c
        generalize hh : upd _ c _ = H_c
        have e_c := newEx hh n_c
        have h_c := newAt hh
        clear hh
        refine ⟨c, _, _, ns ++ [k], rfl, e1.trans (ek.trans (e_t.trans e_c)), by rw [h_c, List.map_append]; rfl, ?_, by rw [List.length_append]; exact Nat.succ_le_succ hle, fun j m => ?_⟩
        · refine List.nodup_append.mpr ⟨hnd, by simp, fun x hx y hy => ?_⟩
          obtain rfl : y = k := by simpa using hy
          exact fun z => hb (z ▸ hx)
        · rcases List.mem_append.mp m with m | m
          · exact hns j m
          · obtain rfl : j = k := by simpa using m
            exact ⟨k0, k1⟩
    · rintro _ H1 ⟨l, y, z, ns, rfl, e1, hl1, hnd, hle, hns⟩
      have hp1 := hp.up e1
      repeat fail "st"
      intro ns' c hperm hsort hc
      generalize hh : upd H1 c _ = H2
      have e2 := newEx hh hc
      have h2 := newAt hh
      clear hh
      have hp2 := hp1.up e2
      have l5 : ns'.length ≤ 5 := by rw [hperm.length_eq]; omega
      repeat fail "st"
      intro D hD
      refine lcL (All fun i v H => ∃ q k x, v = .ref q ∧ ns'[i]? = some k ∧ (0 ≤ x ∧ x < far) ∧ RowAt H q (k, x)) (all_mono fun i v H H' e ⟨q, k, x, a, b, r, c⟩ => ⟨q, k, x, a, b, r, e _ _ (fun xs => by intro z; cases z) c⟩) hD (SqL.of h2) (by rw [List.length_map]; omega) (fun i x hi H' e Q1 Q2 q1 q2 => ?_) (fun H3 os e3 hl3 hD3 hp3 => ?_)
      · obtain ⟨k, hk, rfl⟩ := get_ints hi
        have hp4 := hp2.up e
        repeat fail "st"
        intro x Hx ex x0 x1
        repeat fail "st"
        intro t n_t
        generalize hh : upd _ t _ = H_t
        have e_t := newEx hh n_t
        have h_t := newAt hh
        clear hh
        exact q1 _ _ (ex.trans e_t) ⟨_, rfl, _, _, _, rfl, hk, ⟨x0, x1⟩, h_t⟩
      · obtain ⟨ys, ey, ly, hy⟩ := All.end hp3
        rw [ey] at hD3
        obtain ⟨ks, fs, rfl, rk, ef, hf⟩ := rows_ex (far := far) (ys := ys) (ns := ns') (by rw [ly, hl3, List.length_map]) hy
        obtain ⟨gf, lf⟩ := good_mk ef hsort (hperm.nodup_iff.mpr hnd) (fun k m => hns k (hperm.mem_iff.mp m)) hf f1 l5
        refine ⟨_, _, rfl, SqL.of hD3, fun t o ht ho => ?_⟩
        exact q _ _ _ (e1.trans (e2.trans (e3.trans (Ex.new ht)))) ⟨t, ks, rfl, ⟨o, ho, upd_same⟩, rk.up (Ex.new ht)⟩ gf lf
end

end K09
namespace K09
open PySem PySem.Spec PyProof.Rows L2 Evl Lw
section
variable {P : Program} {w : World} {K : PySem.W.Frag} {mg : Str → Option Value} {base : Heap}
def spRight : Sp := fun vs H Q _ => ∃ p far, vs = [.ref p, .int far] ∧ Pool H p ∧ 1 ≤ far ∧ far ≤ 1000000000 ∧ ∀ H', Ex H H' → Q (.bl true) H'
theorem c_law_right (T : Txt K mg) : Cl P w K mg base CX0 8 "_law_right" s_law_right ["_law_pool_here", "_law_far"] spRight := by
  refine cl_of (k := 7) T.d_law_right sc_law_right (fun vs H Q E h => ?_) (fun f cdv A outer s H vs Q E hr h => ?_)
  · obtain ⟨p, far, rfl, _⟩ := h
    rfl
  · obtain ⟨p, far, rfl, hp, f0, f1, q⟩ := h
    have nd := sc_law_right.nd
    refine ⟨_, (pss_cons (ps_asg (pe_tup (pa_cons (Lw.pe_cl (c_law_pairs T) b_law_pairs hr (by decide) (by rfl) pass0 (pa_cons (pv 0) (pa_cons pe_int (pa_cons (pv 1) pa_nil)))) (pa_cons (Lw.pe_cl (c_law_pairs T) b_law_pairs hr (by decide) (by rfl) pass0 (pa_cons (pv 0) (pa_cons pe_int (pa_cons (pv 1) pa_nil)))) pa_nil))) (pg_tup rfl (pgs_cons (pg_name (i := 2) nd rfl (Or.inr rfl)) (pgs_cons (pg_name (i := 3) nd rfl (Or.inr rfl)) pgs_nil))))
      (pss_cons (ps_set (i := 4) nd rfl (Or.inl rfl) (pe_op op_cat (pe_lc (own := [("_law_pair", 10)]) (g := gName 10) (tt := tYes) rfl nd (pi_tup (pe_op op_catA (pv 2) (pv 3))) (L2.blkOk_by (N := N_law_right) (sc := defScope s_law_right) (by decide +kernel)) (fun _ _ _ _ _ => (pg_name (i := 10) nd rfl (Or.inl rfl))) (fun _ _ _ _ _ => pts_nil) (fun _ _ _ _ _ => (pe_ix (ix_seq : IxR _ (rIx K)) (pv 10) pe_int (fun _ _ => rfl)))) (pe_lc (own := [("_law_pair", 10)]) (g := gName 10) (tt := tYes) rfl nd (pi_tup (pe_op op_catA (pv 2) (pv 3))) (L2.blkOk_by (N := N_law_right) (sc := defScope s_law_right) (by decide +kernel)) (fun _ _ _ _ _ => (pg_name (i := 10) nd rfl (Or.inl rfl))) (fun _ _ _ _ _ => pts_nil) (fun _ _ _ _ _ => (pe_ix (ix_seq : IxR _ (rIx K)) (pv 10) pe_int (fun _ _ => rfl))))))
      (pss_cons (ps_set (i := 5) nd rfl (Or.inl rfl) (pe_op op_cat (pe_callB (cr_sortedI) (by rfl) T.b_sorted bt_sorted (pa_cons (pv 4) pa_nil)) (pe_lst (pa_cons pe_int (pa_cons (pv 1) (pa_cons (pe_op op_pow pe_int pe_int) (pa_cons (Lw.pe_cl (c_law_draw T) b_law_draw hr (by decide) (by rfl) pass0 (pa_cons (pv 0) (pa_cons (pe_op op_pow pe_int pe_int) pa_nil))) pa_nil)))))))
      (pss_cons (ps_for PassesOwn.never rfl (pi_list (pv 5)) (pg_name (i := 6) nd rfl (Or.inl rfl)) (pss_cons (ps_set (i := 7) nd rfl (Or.inl rfl) (pe_lst (pa_cons (Lw.pe_cl (c_recoloured T) b_recoloured hr (by decide) (by rfl) pass0 (pa_cons (pv 6) (pa_cons (pv 2) pa_nil))) (pa_cons (Lw.pe_clk0 (g := fun {_} => gk_bk_recoloured_0_pairs_colour) (c_recoloured T) bk_recoloured_0_pairs_colour rk_bk_recoloured_0_pairs_colour hr (by decide) (by rfl) pass0 (pk_cons (pv 2) (pk_cons (pv 6) pk_nil))) pa_nil))))
      (pss_one (ps_if (PW.pt (pw_or (pt_cmpR (op_neD hr.units) (pv 7) (pe_op op_rep (pe_lst (pa_cons (Lw.pe_cl (c_law_turned T) b_law_turned hr (by decide) (by rfl) pass0 (pa_cons (pv 6) (pa_cons (pv 2) pa_nil))) pa_nil)) pe_int) (nomark _)) (pw_or1 (pt_cmpR op_ne (Lw.pe_cl (c_recoloured T) b_recoloured hr (by decide) (by rfl) pass0 (pa_cons (pv 6) (pa_cons (Lw.pe_tupF pa_nil) pa_nil))) (pv 6) (nomark _))))) (pss_one (ps_ret pe_bl)) pss_nil))))
      (pss_cons (ps_set (i := 8) nd rfl (Or.inr rfl) (Lw.pe_cl (c_combined T) b_combined hr (by decide) (by rfl) pass0 (pa_cons (pv 2) (pa_cons (pv 3) pa_nil))))
      (pss_cons (ps_if (PW.pt (pw_or (pt_cmpR (op_neD hr.units) (pv 8) (Lw.pe_clk0 (g := fun {_} => gk_bk_combined_0_other_pairs_pairs) (c_combined T) bk_combined_0_other_pairs_pairs rk_bk_combined_0_other_pairs_pairs hr (by decide) (by rfl) pass0 (pk_cons (pv 3) (pk_cons (pv 2) pk_nil))) (nomark _)) (pw_or1 (pt_val (pe_callB (cr_any rfl) (by rfl) T.b_any bt_any (pa_cons (pe_lc (own := [("_law_pair", 10)]) (g := gName 10) (tt := tYes) rfl nd (pi_tup (pv 8)) (L2.blkOk_by (N := N_law_right) (sc := defScope s_law_right) (by decide +kernel)) (fun _ _ _ _ _ => (pg_name (i := 10) nd rfl (Or.inl rfl))) (fun _ _ _ _ _ => pts_nil) (fun _ _ _ _ _ => (pe_cmpR op_eq (pe_ix (ix_seq : IxR _ (rIx K)) (pv 10) pe_int (fun _ _ => rfl)) (pe_ix (ix_seq : IxR _ (rIx K)) (pv 10) pe_int (fun _ _ => rfl)) (nomark _)))) pa_nil)))))) (pss_one (ps_ret pe_bl)) pss_nil)
      (pss_cons (ps_if (pt_val (pe_callB (cr_any rfl) (by rfl) T.b_any bt_any (pa_cons (pe_lc (own := [("_law_k", 11)]) (g := gName 11) (tt := tYes) rfl nd (pi_range1 (by rfl) T.b_range (pa_cons (pe_op op_sub (pe_callB (call_len) (by rfl) T.b_len bt_len (pa_cons (pv 8) pa_nil)) pe_int) pa_nil)) (L2.blkOk_by (N := N_law_right) (sc := defScope s_law_right) (by decide +kernel)) (fun _ _ _ _ _ => (pg_name (i := 11) nd rfl (Or.inl rfl))) (fun _ _ _ _ _ => pts_nil) (fun _ _ _ _ _ => (pe_cmpR op_ge (pe_ix (ix_seq : IxR _ (rIx K)) (pe_ix (ix_seq : IxR _ (rIx K)) (pv 8) (pv 11) (fun _ _ => rfl)) pe_int (fun _ _ => rfl)) (pe_ix (ix_seq : IxR _ (rIx K)) (pe_ix (ix_seq : IxR _ (rIx K)) (pv 8) (pe_op op_add (pv 11) pe_int) (fun _ _ => rfl)) pe_int (fun _ _ => rfl)) (nomark _)))) pa_nil))) (pss_one (ps_ret pe_bl)) pss_nil)
      (pss_cons (ps_setLc (own := [("_law_hue", 6)]) (g := gName 6) (tt := tYes) (i := 9) rfl nd rfl rfl (sw_true rfl rfl rfl (by decide +kernel)) (pi_list (pv 5)) (L2.blkOk_by (N := N_law_right) (sc := defScope s_law_right) (by decide +kernel)) (fun _ _ _ _ _ => (pg_name (i := 6) nd rfl (Or.inl rfl))) (fun _ _ _ _ _ => pts_nil) (fun _ _ _ _ _ => (pe_tup (pa_cons (pv 6) (pa_cons (Lw.pe_cl (c_law_turned T) b_law_turned hr (by decide) (by rfl) pass0 (pa_cons (Lw.pe_cl (c_law_turned T) b_law_turned hr (by decide) (by rfl) pass0 (pa_cons (pv 6) (pa_cons (pv 2) pa_nil))) (pa_cons (pv 3) pa_nil))) pa_nil)))))
      (pss_one (ps_ret (pe_and (pe_callB (cr_all rfl) (by rfl) T.b_all bt_all (pa_cons (pe_lc (own := [("_law_hue", 6), ("_law_new", 12)]) (g := gTup K 2 (gCons (gName 6) (gCons (gName 12) (gNil)))) (tt := tYes) rfl nd (pi_list (pv 9)) (L2.blkOk_by (N := N_law_right) (sc := defScope s_law_right) (by decide +kernel)) (fun _ _ _ _ _ => (pg_tup rfl (pgs_cons (pg_name (i := 6) nd rfl (Or.inl rfl)) (pgs_cons (pg_name (i := 12) nd rfl (Or.inl rfl)) pgs_nil)))) (fun _ _ _ _ _ => pts_nil) (fun _ _ _ _ _ => (pe_cmpR op_eq (Lw.pe_cl (c_recoloured T) b_recoloured hr (by decide) (by rfl) pass0 (pa_cons (pv 6) (pa_cons (pv 8) pa_nil))) (pv 12) (nomark _)))) pa_nil)) (pe_one (pe_cmpR (op_eqD hr.units) (pv 8) (pe_callTy (Lw.cr_tupF) (by rfl) T.b_tuple bt_tuple (pa_cons (pe_lc (own := [("_law_pair", 10)]) (g := gName 10) rfl nd (pi_list (pe_callB (Lw.cr_itemsS rfl) (by rfl) T.b_sorted bt_sorted (pa_cons (pe_bm0 PySem.F.plainAttrs_dict PySem.F.slot_dict_items PySem.F.type_dict_items Lw.mt_itemsK (pe_callTy (call_dictP rfl) (by rfl) T.b_dict bt_dict (pa_cons (pv 9) pa_nil))) pa_nil))) (L2.blkOk_by (N := N_law_right) (sc := defScope s_law_right) (by decide +kernel)) (fun _ _ _ _ _ => (pg_name (i := 10) nd rfl (Or.inl rfl))) (fun _ _ _ _ _ => (pts_one (pt_cmpR op_ne (pe_ix (ix_seq : IxR _ (rIx K)) (pv 10) pe_int (fun _ _ => rfl)) (pe_ix (ix_seq : IxR _ (rIx K)) (pv 10) pe_int (fun _ _ => rfl)) (nomark _)))) (fun _ _ _ _ _ => (pv 10))) pa_nil)) (nomark _)))))))))))))), ?_⟩
    repeat fail "st"
    refine ⟨_, _, _, rfl, (by fail "pool"), rfl, f0, f1, fun v1 ps H1 e1 t1 g1 l1 => ?_⟩
    have hp1 := hp.up e1
    repeat fail "st"
    refine ⟨_, _, _, rfl, (by fail "pool"), rfl, f0, f1, fun v2 rs H2 e2 t2 g2 l2 => ?_⟩
    have hp2 := hp1.up e2
    repeat fail "st"
    intro tt n_tt
    generalize hh : upd _ tt _ = H_tt
    have e_tt := newEx hh n_tt
    have h_tt := newAt hh
    clear hh
    have t1' := (t1.up e2).up e_tt
    have t2' := t2.up e_tt
    have hp3 := hp2.up e_tt
    have e3 := e1.trans (e2.trans e_tt)
    repeat fail "st"
    clear hp1 hp2 e1 t1 t2 e2 e_tt h_tt n_tt
    obtain ⟨a1, qs1, rfl, ta1, ra1⟩ := t1'
    obtain ⟨a2, qs2, rfl, ta2, ra2⟩ := t2'
    have ll1 := ra1.len
    have ll2 := ra2.len
    refine catT ta1.sq ta2.sq (by rw [List.length_map, List.length_map, ll1, ll2]; omega) fun c H4 e4 hc => ?_
    rw [← List.map_append] at hc
    have rc := (ra1.app ra2).up e4
    have lc := rc.len
    rw [List.length_append (as := ps)] at lc
    have ta3 := ta1.up e4
    have tb3 := ta2.up e4
    have hp4 := hp3.up e4
    repeat fail "st"
    intro D hD
    refine lcT (All fun i v H => ∃ p, (ps ++ rs)[i]? = some p ∧ v = .int p.1) (all_mono fun _ _ _ _ _ h => h) hD hc (by rw [List.length_map, lc]; omega) (fun i x hi H' e Q1 Q2 q1 q2 => ?_) (fun H5 os e5 hl5 hD5 hp5 => ?_)
    · obtain ⟨r, p, rfl, _, hpp, rp⟩ := rows_at' rc hi
      have rp' := rp.up e
      repeat fail "st"
      exact q1 _ _ (Ex.refl _) ⟨_, rfl, p, hpp, rfl⟩
    obtain ⟨ys, ey, ly, hy⟩ := All.end hp5
    rw [ey] at hD5
    obtain ⟨xs, rfl, hxs⟩ := ints_of_all (f := fun p => p.1) (ys := ys) (fs := ps ++ rs) (by rw [ly, hl5, List.length_map, lc, List.length_append]) hy
    have ra3 := (ra1.up e4).up e5
    have rb3 := (ra2.up e4).up e5
    have ta4 := ta3.up e5
    have tb4 := tb3.up e5
    have hp6 := hp4.up e5
    clear ey ly hy hp5 hl5
    repeat fail "st"
    refine catT ta4.sq tb4.sq (by rw [List.length_map, List.length_map, ll1, ll2]; omega) fun c2 H6 e6 hc2 => ?_
    rw [← List.map_append] at hc2
    have rc2 := (ra3.app rb3).up e6
    have lc2 := rc2.len
    rw [List.length_append (as := ps)] at lc2
    have ta5 := ta4.up e6
    have tb5 := tb4.up e6
    have hp7 := hp6.up e6
    repeat fail "st"
    intro D2 hD2
    refine lcT (All fun i v H => ∃ p, (ps ++ rs)[i]? = some p ∧ v = .int p.2) (all_mono fun _ _ _ _ _ h => h) hD2 hc2 (by rw [List.length_map, lc2]; omega) (fun i x hi H' e Q1 Q2 q1 q2 => ?_) (fun H7 os2 e7 hl7 hD7 hp8 => ?_)
    · obtain ⟨r, p, rfl, _, hpp, rp⟩ := rows_at' rc2 hi
      have rp' := rp.up e
      repeat fail "st"
      exact q1 _ _ (Ex.refl _) ⟨_, rfl, p, hpp, rfl⟩
    obtain ⟨ys, ey, ly, hy⟩ := All.end hp8
    rw [ey] at hD7
    obtain ⟨zs, rfl, hzs⟩ := ints_of_all (f := fun p => p.2) (ys := ys) (fs := ps ++ rs) (by rw [ly, hl7, List.length_map, lc2, List.length_append]) hy
    have hD8 := e7 _ _ (e6 _ _ hD5)
    clear ey ly hy hp8 hl7
    have lx : xs.length ≤ 10 := by rw [hxs, List.length_map, List.length_append]; omega
    have lz : zs.length ≤ 10 := by rw [hzs, List.length_map, List.length_append]; omega
    have ta6 := (ta5.up e7)
    have tb6 := (tb5.up e7)
    have ra6 := ((ra3.up e6).up e7)
    have rb6 := ((rb3.up e6).up e7)
    have hp9 := hp7.up e7
    have eA := e3.trans (e4.trans (e5.trans (e6.trans e7)))
    refine ⟨_, _, _, _, rfl, rfl, hD8, hD7, Nat.le_trans (show _ ≤ 1000 by rw [List.length_map, List.length_map]; omega) (by decide), ?_⟩
    intro nm n_nm
    generalize hh : upd _ nm _ = H_nm
    have e_nm := newEx hh n_nm
    have h_nm := newAt hh
    clear hh
    rw [← List.map_append] at h_nm
    have hp10 := hp9.up e_nm
    repeat fail "st"
    intro ks c3 hperm hsort hc3
    generalize hh : upd H_nm c3 _ = H8
    have e8 := newEx hh hc3
    have h8 := newAt hh
    clear hh
    have hp11 := hp10.up e8
    have lk : ks.length ≤ 20 := by rw [hperm.length_eq, List.length_append]; omega
    repeat fail "st"
    intro d Hd ed d0 d1
    have h9 := ed _ _ h8
    repeat fail "st"
    intro fo n_fo
    generalize hh : upd _ fo _ = H_fo
    have e_fo := newEx hh n_fo
    have h_fo := newAt hh
    clear hh
    have h10 := e_fo _ _ h9
    repeat fail "st"
    refine ⟨_, _, _, _, rfl, rfl, h10, h_fo, Nat.le_trans (show _ ≤ 1000 by rw [List.length_map]; show ks.length + 4 ≤ 1000; omega) (by decide), ?_⟩
    intro tr n_tr
    generalize hh : upd _ tr _ = H_tr
    have e_tr := newEx hh n_tr
    have h_tr := newAt hh
    clear hh
    obtain ⟨tl, htl⟩ : ∃ tl : List Int, ks.map V.int ++ [V.int 0, V.int far, V.int (10 ^ Int.toNat 9), V.int d] = tl.map V.int ∧ (∀ k ∈ tl, Col k) ∧ (∀ p ∈ ps ++ rs, p.1 ∈ tl) ∧ tl.length ≤ 24 := by
      refine ⟨ks ++ [0, far, 10 ^ Int.toNat 9, d], by rw [List.map_append]; rfl, fun k m => ?_, fun p m => ?_, by rw [List.length_append]; show ks.length + 4 ≤ 24; omega⟩
      · rcases List.mem_append.mp m with m | m
        · have m' := hperm.mem_iff.mp m
          rcases List.mem_append.mp m' with m' | m'
          · rw [hxs] at m'
            obtain ⟨p, hp, rfl⟩ := List.mem_map.mp m'
            rcases List.mem_append.mp hp with hp | hp
            · exact (g1.col p hp).1
            · exact (g2.col p hp).1
          · rw [hzs] at m'
            obtain ⟨p, hp, rfl⟩ := List.mem_map.mp m'
            rcases List.mem_append.mp hp with hp | hp
            · exact (g1.col p hp).2
            · exact (g2.col p hp).2
        · rcases List.mem_cons.mp m with rfl | m
          · exact ⟨by omega, by omega⟩
          rcases List.mem_cons.mp m with rfl | m
          · exact ⟨by omega, f1⟩
          rcases List.mem_cons.mp m with rfl | m
          · exact ⟨by decide, by decide⟩
          · obtain rfl : k = d := by simpa using m
            exact ⟨d0, Int.le_of_lt (Int.lt_of_lt_of_le d1 (by decide))⟩
      · refine List.mem_append_left _ (hperm.mem_iff.mpr (List.mem_append_left _ ?_))
        rw [hxs]
        exact List.mem_map.mpr ⟨p, m, rfl⟩
    obtain ⟨htl, ctl, mtl, ltl⟩ := htl
    rw [htl] at h_tr
    have up := e_nm.trans (e8.trans (ed.trans (e_fo.trans e_tr)))
    have eB := eA.trans up
    have T1 : Tab H_tr (.ref a1) ps := ⟨_, _, rfl, ta6.up up, ra6.up up⟩
    have T2 : Tab H_tr (.ref a2) rs := ⟨_, _, rfl, tb6.up up, rb6.up up⟩
    repeat fail "st"
    clear up eA ta6 tb6 ra6 rb6 ta5 tb5 ta4 tb4 ta3 tb3 ta1 ta2 ra1 ra2 ra3 rb3 rc rc2 lc lc2 hxs hzs hp hp3 hp4 hp6 hp7 hp9 hp10 hp11 h8 h9 h10 h_fo h_nm e_nm e8 ed e_fo e_tr e7 e6 e5 e4 e3 hD7 hD8 hc hc2 n_tr n_fo n_nm hc3
    refine for_list (xs := tl.map V.int) (fun i σ H' => ∃ y z, σ = [some (.ref p), some (.int far), some (.ref a1), some (.ref a2), some (.ref nm), some (.ref tr), y, z, none, none, none, none, none] ∧ Ex H_tr H') ⟨_, _, rfl, Ex.refl _⟩ ?_ ?_ ?_
    · rintro i _ H' _ ⟨y, z, rfl, e⟩
      exact ex_l e (SqL.of h_tr)
    · rintro i x _ H' hx ⟨y, z, rfl, e⟩
      obtain ⟨k, hk, rfl⟩ := get_ints hx
      have ck := ctl k (List.mem_of_getElem? hk)
      have t1 := T1.up e
      repeat fail "st"
      refine ⟨k, _, ps, t1, rfl, ck, g1, fun HA xA => ?_⟩
      repeat fail "st"
      refine ⟨k, _, ps, t1.up xA, rfl, ck, g1, fun HB xB => ?_⟩
      repeat fail "st"
      intro to n_to
      generalize hh : upd _ to _ = H_to
      have e_to := newEx hh n_to
      have h_to := newAt hh
      clear hh
      have t2 := ((t1.up xA).up xB).up e_to
      repeat fail "st"
      refine ⟨k, _, ps, t2, rfl, ?_⟩
      repeat fail "st"
      intro on n_on
      generalize hh : upd _ on _ = H_on
      have e_on := newEx hh n_on
      have h_on := newAt hh
      clear hh
      dsimp only [tC]
      refine rep2 h_on (by show 1 ≤ 1000; decide) ?_
      intro tw n_tw
      generalize hh : upd _ tw _ = H_tw
      have e_tw := newEx hh n_tw
      have h_tw := newAt hh
      clear hh
      refine ne2 (x := look ps k) (by fail "at") h_tw ?_
      repeat fail "st"
      intro em oo nem hoo
      generalize hh : upd H_tw em _ = HE
      have xE := newEx hh nem
      have hE := newAt hh
      clear hh
      repeat fail "st"
      refine ⟨k, _, [], ⟨em, [], rfl, ⟨oo, hoo, hE⟩, .nil⟩, rfl, ck, good_nil, fun HC xC => ?_⟩
      repeat fail "st"
      refine ifN (fun hn => absurd rfl hn) (fun _ => ?_)
      exact ⟨_, _, rfl, e.trans (xA.trans (xB.trans (e_to.trans (e_on.trans (e_tw.trans (xE.trans xC))))))⟩
    · rintro _ H' ⟨y, z, rfl, e⟩
      have t1 := T1.up e
      have t2 := T2.up e
      have hT := e _ _ h_tr
      repeat fail "st"
      refine ⟨_, _, ps, rs, t1, t2, rfl, g1, g2, by omega, fun x ts HA xA tx ch => ?_⟩
      obtain ⟨b, qb, rfl, tb, rb⟩ := tx
      repeat fail "st"
      refine ⟨_, _, ps, rs, t1.up xA, t2.up xA, rfl, g1, g2, by omega, fun x2 ts2 HB xB tx2 ch2 => ?_⟩
      obtain rfl := ch.uniq ch2
      have gt := ch.good g1 g2 (by omega)
      have tb1 := tb.up xB
      have rb1 := rb.up xB
      have lb := rb.len
      have lt := gt.len
      repeat fail "st"
      refine ne_tab ⟨_, _, rfl, tb1, rb1⟩ tx2 ?_
      repeat fail "st"
      intro D hD
      refine lcT (All fun _ v _ => v = V.bl false) (all_mono fun _ _ _ _ _ h => h) hD tb1.sq (by rw [List.length_map, lb]; omega) (fun i x hi H' e' Q1 Q2 q1 q2 => ?_) (fun HC os xC hl5 hD5 hp5 => ?_)
      · obtain ⟨r, p, rfl, _, hpp, rp⟩ := rows_at' rb1 hi
        have rp' := rp.up e'
        repeat fail "st"
        refine q1 _ _ (Ex.refl _) ⟨_, rfl, congrArg V.bl (decide_eq_false fun z => ?_)⟩
        exact ((ch.mem p).mp (List.mem_of_getElem? hpp)).1 (V.int.inj z)
      obtain ⟨ys, ey, ly, hy⟩ := All.end hp5
      rw [ey] at hD5
      obtain ⟨bs, eb, hb⟩ := any_false (ys := ys) (fun y hy1 => by
        obtain ⟨i, hi, e⟩ := List.getElem_of_mem hy1
        exact hy i y (by rw [List.getElem?_eq_getElem hi, e]))
      subst eb
      refine ⟨_, _, rfl, SqL.of hD5, ?_⟩
      rw [hb]
      have tb2 := tb1.up xC
      have rb2 := rb1.up xC
      clear hy ey ly hp5 hl5
      repeat fail "st"
      refine ⟨by rw [List.length_map, lb]; omega, ?_⟩
      intro D2 hD2
      refine lcR (All fun _ v _ => v = V.bl false) (all_mono fun _ _ _ _ _ h => h) hD2 (by rw [List.length_map, lb]; omega) (fun i hi H' e' Q1 Q2 q1 q2 => ?_) (fun HD os xD hl5 hD5 hp5 => ?_)
      · rw [List.length_map, lb] at hi
        have li : i < ts.length := by omega
        have lj : i + 1 < ts.length := by omega
        obtain ⟨r1, w1, z1⟩ := rows_ref (rb2.up e') li
        obtain ⟨r2, w2, z2⟩ := rows_ref (rb2.up e') lj
        have sq := (tb2.up e').sq (K := K)
        have ei : (0 + (i : Int)) = ((i : Nat) : Int) := by omega
        have ei2 : (0 + (i : Int)) + 1 = ((i + 1 : Nat) : Int) := by omega
        repeat fail "st"
        show rIx K _ _ _ _
        refine ixT_at (K := K) (H := H') (p := b) sq ei w1 ?_
        repeat fail "st"
        show rIx K _ _ _ _
        refine ixT_at (K := K) (H := H') (p := b) sq ei2 w2 ?_
        repeat fail "st"
        refine q1 _ _ (Ex.refl _) ⟨_, rfl, congrArg V.bl (decide_eq_false fun z => ?_)⟩
        have := gt.at li lj (by omega)
        omega
      obtain ⟨ys, ey, ly, hy⟩ := All.end hp5
      rw [ey] at hD5
      obtain ⟨bs2, eb, hb2⟩ := any_false (ys := ys) (fun y hy1 => by
        obtain ⟨i, hi, e⟩ := List.getElem_of_mem hy1
        exact hy i y (by rw [List.getElem?_eq_getElem hi, e]))
      subst eb
      refine ⟨_, _, rfl, SqL.of hD5, ?_⟩
      rw [hb2]
      have tb3 := tb2.up xD
      have rb3 := rb2.up xD
      have xx := xA.trans (xB.trans (xC.trans xD))
      have t3 := t1.up xx
      have t4 := t2.up xx
      have hT2 := xx _ _ hT
      clear hy ey ly hp5 hl5
      repeat fail "st"
      intro D3 hD3
      refine lcL (All fun i v H => ∃ q k, v = .ref q ∧ tl[i]? = some k ∧ RowAt H q (k, look rs (look ps k))) (all_mono fun i v H H' e ⟨q, k, a, b, c⟩ => ⟨q, k, a, b, e _ _ (fun xs => by intro z; cases z) c⟩) hD3 (SqL.of hT2) (by rw [List.length_map]; omega) (fun i x hi H' e' Q1 Q2 q1 q2 => ?_) (fun HE os xE hl6 hD6 hp6 => ?_)
      · obtain ⟨k, hk, rfl⟩ := get_ints hi
        repeat fail "st"
        refine ⟨k, _, ps, t3.up e', rfl, ?_⟩
        repeat fail "st"
        refine ⟨_, _, rs, t4.up e', rfl, ?_⟩
        repeat fail "st"
        intro t n_t
        generalize hh : upd _ t _ = H_t
        have e_t := newEx hh n_t
        have h_t := newAt hh
        clear hh
        exact q1 _ _ e_t ⟨_, rfl, _, _, rfl, hk, h_t⟩
      obtain ⟨ys, ey, ly, hy⟩ := All.end hp6
      rw [ey] at hD6
      obtain ⟨qd, rfl, rd⟩ := rows_of_all (H := HE) (ys := ys) (fs := tl.map fun k => (k, look rs (look ps k))) (by rw [ly, hl6, List.length_map, List.length_map]) fun i y e => by
        obtain ⟨q, k, a, b, c⟩ := hy i y e
        exact ⟨q, _, a, by rw [List.getElem?_map, b]; rfl, c⟩
      have tb4 := tb3.up xE
      have rb4 := rb3.up xE
      have ld := rd.len
      rw [List.length_map] at ld
      clear hy ey ly hp6 hl6
      repeat fail "st"
      intro D4 hD4
      refine lcL (All fun _ v _ => v = V.bl true) (all_mono fun _ _ _ _ _ h => h) hD4 (SqL.of hD6) (by rw [List.length_map, ld]; omega) (fun i x hi H' e' Q1 Q2 q1 q2 => ?_) (fun HF os xF hl7 hD7 hp7 => ?_)
      · obtain ⟨r, p', rfl, _, hpp, rp⟩ := rows_at' rd hi
        rw [List.getElem?_map] at hpp
        obtain ⟨k, hk, rfl⟩ : ∃ k, tl[i]? = some k ∧ (k, look rs (look ps k)) = p' := by
          cases hz : tl[i]? with
          | none => rw [hz] at hpp; cases hpp
          | some k => rw [hz] at hpp; exact ⟨k, rfl, Option.some.inj hpp⟩
        have rp' : H' r = some (.tup [.int k, .int (look rs (look ps k))]) := e' _ _ rp
        have ck := ctl k (List.mem_of_getElem? hk)
        repeat fail "st"
        refine ⟨k, _, ts, ⟨_, _, rfl, tb4.up e', rb4.up e'⟩, rfl, ck, gt, fun HG xG => ?_⟩
        repeat fail "st"
        refine q1 _ _ xG ⟨_, rfl, congrArg V.bl (decide_eq_true ?_)⟩
        rw [ch.turn]
      obtain ⟨ys, ey, ly, hy⟩ := All.end hp7
      rw [ey] at hD7
      obtain ⟨bs3, eb, hb3⟩ := all_true (ys := ys) (fun y hy1 => by
        obtain ⟨i, hi, e⟩ := List.getElem_of_mem hy1
        exact hy i y (by rw [List.getElem?_eq_getElem hi, e]))
      subst eb
      refine ⟨_, _, rfl, SqL.of hD7, ?_⟩
      rw [hb3]
      have tb5 := tb4.up xF
      have rb5 := rb4.up xF
      have rd2 := rd.up xF
      have hD8 := xF _ _ hD6
      clear hy ey ly hp7 hl7
      repeat fail "st"
      refine ⟨_, qd, _, rfl, SqL.of hD8, rows_kv rd2, ?_⟩
      intro dd n_dd
      generalize hh : upd _ dd _ = H_dd
      have e_dd := newEx hh n_dd
      have h_dd := newAt hh
      clear hh
      obtain ⟨es, ee, ne, me⟩ := merge_fun (fun k => look rs (look ps k)) (ks := tl) (acc := []) .nil (fun p m => by simp at m)
      replace h_dd : H_dd dd = some (.dK (kvI es)) := h_dd.trans (congrArg (fun x => some (HO.dK x)) ee)
      refine ⟨.inr (.inr (.inl ⟨rfl, .inl ⟨_, h_dd⟩⟩)), ?_⟩
      refine ⟨_, _, rfl, rfl, h_dd, ?_⟩
      intro vw n_vw
      generalize hh : upd _ vw _ = H_vw
      have e_vw := newEx hh n_vw
      have h_vw := newAt hh
      clear hh
      repeat fail "st"
      refine ⟨vw, dd, es, rfl, h_vw, e_vw _ _ h_dd, fun HS ls qs us xS hls rS pS sS => ?_⟩
      have us24 : us.length ≤ 24 := by
        have e1 : us.length = es.length := pS.length_eq
        have e2 : es.length ≤ tl.length := by
          rw [← List.length_map (f := fun p : Int × Int => p.1)]
          refine List.Nodup.length_le_of_subset ne fun k hk => ?_
          obtain ⟨p, hp, rfl⟩ := List.mem_map.mp hk
          rcases (me p).mp hp with h | h
          · cases h
          · exact h.1
        omega
      have lq := rS.len
      repeat fail "st"
      intro D5 hD5
      refine lcL (SiftP us) (sift_mono _) hD5 (SqL.of hls) (by rw [List.length_map]; omega) (fun i x hi H' e' Q1 Q2 q1 q2 => ?_) (fun HI os4 xI hl4 hDI hp4 => ?_)
      · obtain ⟨r, p', rfl, _, hpp, rp⟩ := rows_at' rS hi
        have rp' := rp.up e'
        repeat fail "st"
        refine ifNt (fun hd => ?_) (fun hd => ?_)
        · repeat fail "st"
          exact q1 _ _ (Ex.refl _) ⟨p', hpp, .inl ⟨fun z => of_decide_eq_false hd (congrArg V.int z), _, rfl, rp'⟩⟩
        · exact q2 _ (Ex.refl _) ⟨p', hpp, .inr ⟨V.int.inj (of_decide_eq_true hd), rfl⟩⟩
      obtain ⟨js, ej, rj⟩ := sift_all (fs := us) (by rw [hl4, List.length_map, lq]) hp4
      rw [ej] at hDI
      rw [due_chain ch mtl ne (fun p => by rw [me]; simp) pS sS] at rj
      refine ⟨_, _, rfl, SqL.of hDI, fun l o hl ho => ?_⟩
      have xl : Ex HI (upd HI l (.frz o (.tup (js.map V.ref)))) := Ex.new hl
      have tot := e_dd.trans (e_vw.trans (xS.trans (xI.trans xl)))
      refine eq_tab ⟨_, _, rfl, tb5.up tot, rb5.up tot⟩ ⟨l, js, rfl, ⟨o, ho, upd_same⟩, rj.up xl⟩ ?_
      exact q _ (eB.trans (e.trans (xx.trans (xE.trans (xF.trans tot)))))
end

end K09
namespace K09
open PySem PySem.Spec PyProof.Rows L2 Evl Lw
section
variable {P : Program} {w : World} {K : PySem.W.Frag} {mg : Str → Option Value} {base : Heap}
theorem c_law (T : Txt K mg) : Cl P w K mg base CX0 9 "law" s_law ["_law_script"] (spLaw K) := by
  refine cl_of (k := 8) T.d_law sc_law (fun vs H Q E h => ?_) (fun f cdv A outer s H vs Q E hr h => ?_)
  · obtain ⟨a, ns, rfl, _⟩ := h
    rfl
  · obtain ⟨a, ns, rfl, hS, hl, q⟩ := h
    have nd := sc_law.nd
    refine ⟨_, (pss_cons (ps_for PassesOwn.never rfl (pi_range1 (by rfl) T.b_range (pa_cons (pe_callB (call_max2 rfl) (by rfl) T.b_max bt_max (pa_cons pe_int (pa_cons (pe_callB (call_min2 rfl) (by rfl) T.b_min bt_min (pa_cons (pe_callB (call_len) (by rfl) T.b_len bt_len (pa_cons (pv 0) pa_nil)) (pa_cons pe_int pa_nil))) pa_nil))) pa_nil)) (pg_name (i := 1) nd rfl (Or.inl rfl)) (pss_cons (ps_set (i := 2) nd rfl (Or.inr rfl) (Lw.pe_cl (c_law_pool T) b_law_pool hr (by decide) (by rfl) pass0 (pa_cons (Lw.pe_cl (c_law_cell T) b_law_cell hr (by decide) (by rfl) pass0 (pa_cons (pv 0) (pa_cons (pv 1) pa_nil))) pa_nil)))
      (pss_one (ps_if (pt_not (pt_val (pe_callB (cr_all rfl) (by rfl) T.b_all bt_all (pa_cons (pe_lc (own := [("_law_turn", 3)]) (g := gName 3) (tt := tYes) rfl nd (pi_range1 (by rfl) T.b_range (pa_cons pe_int pa_nil)) (L2.blkOk_by (N := N_law) (sc := defScope s_law) (by decide +kernel)) (fun _ _ _ _ _ => (pg_name (i := 3) nd rfl (Or.inl rfl))) (fun _ _ _ _ _ => pts_nil) (fun _ _ _ _ _ => (Lw.pe_cl (c_law_right T) b_law_right hr (by decide) (by rfl) pass0 (pa_cons (pv 2) (pa_cons (pe_ix (ix_seq : IxR _ (rIx K)) (pe_lst (pa_cons pe_int (pa_cons pe_int (pa_cons (pe_op op_pow pe_int pe_int) pa_nil)))) (pe_op op_mod (pv 3) pe_int) (fun _ _ => rfl)) pa_nil))))) pa_nil)))) (pss_one (ps_ret pe_bl)) pss_nil))))
      (pss_one (ps_ret pe_bl))), ?_⟩
    repeat fail "st"
    refine for_range (fun _ σ H' => ∃ y z, σ = [some (.ref a), y, z, none] ∧ Ex H H') ⟨_, _, rfl, Ex.refl _⟩ ?_ ?_
    · rintro i _ H' hi ⟨y, z, rfl, e⟩
      have hi6 : i ≤ 6 := by
        revert hi
        (repeat' split) <;> omega
      have hS' := ex_l e hS
      repeat fail "st"
      refine ⟨_, _, _, rfl, (by fail "sql"), hl, by omega, by omega, fun c Hc ec => ?_⟩
      repeat fail "st"
      intro pl Hp np ep pp
      repeat fail "st"
      intro D hD
      refine lcR (All fun _ v _ => v = V.bl true) (all_mono fun _ _ _ _ _ h => h) hD (by decide) (fun j hj H1 e1 Q1 Q2 q1 q2 => ?_) (fun H2 os e2 hl2 hD2 hp2 => ?_)
      · have pp1 := pp.up e1
        repeat fail "st"
        intro l n_l
        generalize hh : upd _ l _ = H_l
        have e_l := newEx hh n_l
        have h_l := newAt hh
        clear hh
        repeat fail "st"
        show rIx K _ _ _ _
        refine ix_in (.inl (SqL.of h_l)) (by omega) (by show _ < (3 : Int); omega) (fun v hv => ?_)
        have hf : ∃ far : Int, v = V.int far ∧ 1 ≤ far ∧ far ≤ 1000000000 := by
          rcases List.mem_cons.mp hv with rfl | hv
          · exact ⟨_, rfl, by decide, by decide⟩
          rcases List.mem_cons.mp hv with rfl | hv
          · exact ⟨_, rfl, by decide, by decide⟩
          rcases List.mem_cons.mp hv with rfl | hv
          · exact ⟨_, rfl, by decide, by decide⟩
          · cases hv
        obtain ⟨far, rfl, f0, f1⟩ := hf
        repeat fail "st"
        intro H3 e3
        exact q1 _ _ (e_l.trans e3) ⟨_, rfl, rfl⟩
      · obtain ⟨ys, ey, ly, hy⟩ := All.end hp2
        rw [ey] at hD2
        obtain ⟨bs, eb, hb⟩ := all_true (ys := ys) (fun y hy1 => by
          obtain ⟨i, hi, e⟩ := List.getElem_of_mem hy1
          exact hy i y (by rw [List.getElem?_eq_getElem hi, e]))
        subst eb
        refine ⟨_, _, rfl, SqL.of hD2, ?_⟩
        rw [hb]
        repeat fail "st"
        exact e.trans (ec.trans (ep.trans e2))
    · rintro _ H' ⟨y, z, rfl, e⟩
      repeat fail "st"
      exact q _
theorem law_mk {fa : Addr} (T : Txt K mg) (hfa : mg "law" = some (.ref fa)) : ∃ fd, (∀ (s : Shared) (u : Value), BindsTo s fd ⟨[u], []⟩ [("_law_script", u)]) ∧
    ∀ base : Heap, K.In base → base.Ns mainGlobals mg → FnOk P w K mg base CX0 9 fa fd ["_law_script"] (spLaw K) := by
  obtain ⟨fd, F, b⟩ := law_fd T.d_law b_law hfa
  exact ⟨fd, b, fun base _ _ => (c_law T).at F hfa⟩
theorem law_sp {H : Hp} {a : Addr} {ns : List Int} (hl : ns.length ≤ 63) (hS : SqL K H a (ns.map V.int)) : spLaw K [.ref a] H (fun v _ => v = .bl true) fun _ _ _ => False := ⟨a, ns, rfl, hS, hl, fun _ => rfl⟩
end

end K09
open PySem PySem.W PyProof.Rows
set_option maxHeartbeats 0 in
theorem PySem.Challenge.cw_allscreens_k09_colours_turned_holds : PySem.Challenge.rw_allscreens_k09_colours_turned.Holds := by
  w_on; o_law; k_head; (case hw => w_witness2)
  k_fill
  refine L2.walk_of (l := PySem.Challenge.rw_allscreens_k09_colours_turned) (n := 63) (k := 9) (x := "_law_script") (CX := fun _ => L2.CX0) (sp := fun w => Lw.spLaw _) rfl (by decide) rfl ⟨rfl, by decide, by decide⟩ (fun w h Y => PySem.W.kIn_of Y) ?F (fun _ _ a ns hl _ hS => K09.law_sp hl hS) (fun _ _ _ _ _ h => h)
  case F =>
    intro w mg fa h KX G hmg
    refine' K09.law_mk ⟨Lw.defAt_mk KX G ?a0 ?l0 ?c0 ?k0, Lw.defAt_mk KX G ?a1 ?l1 ?c1 ?k1, Lw.defAt_mk KX G ?a2 ?l2 ?c2 ?k2, Lw.defAt_mk KX G ?a3 ?l3 ?c3 ?k3, Lw.defAt_mk KX G ?a4 ?l4 ?c4 ?k4, Lw.defAt_mk KX G ?a5 ?l5 ?c5 ?k5, Lw.defAt_mk KX G ?a6 ?l6 ?c6 ?k6, Lw.defAt_mk KX G ?a7 ?l7 ?c7 ?k7, Lw.defAt_mk KX G ?a8 ?l8 ?c8 ?k8, Lw.defAt_mk KX G ?a9 ?l9 ?c9 ?k9, Lw.defAt_mk KX G ?a10 ?l10 ?c10 ?k10, Lw.defAt_mk KX G ?a11 ?l11 ?c11 ?k11, Lw.defAt_mk KX G ?a12 ?l12 ?c12 ?k12, Lw.defAt_mk KX G ?a13 ?l13 ?c13 ?k13, Lw.defAt_mk KX G ?a14 ?l14 ?c14 ?k14, Lw.defAt_mk KX G ?a15 ?l15 ?c15 ?k15, Lw.defAt_mk KX G ?a16 ?l16 ?c16 ?k16, Lw.defAt_mk KX G ?a17 ?l17 ?c17 ?k17, PySem.W.mg_none_of KX G ?z0, PySem.W.mg_none_of KX G ?z1, PySem.W.mg_none_of KX G ?z2, PySem.W.mg_none_of KX G ?z3, PySem.W.mg_none_of KX G ?z4, PySem.W.mg_none_of KX G ?z5, PySem.W.mg_none_of KX G ?z6, PySem.W.mg_none_of KX G ?z7, PySem.W.mg_none_of KX G ?z8, PySem.W.mg_none_of KX G ?z9, PySem.W.mg_none_of KX G ?z10, PySem.W.mg_none_of KX G ?z11, PySem.W.mg_none_of KX G ?z12, PySem.W.mg_none_of KX G ?z13, Lw.const_mk KX G ?cst0 ?rst0⟩ hmg
    (case a0 => k_is)
    (case l0 => k_is)
    (case c0 => k_is)
    (case k0 => k_is)
    (case a1 => k_is)
    (case l1 => k_is)
    (case c1 => k_is)
    (case k1 => k_is)
    (case a2 => k_is)
    (case l2 => k_is)
    (case c2 => k_is)
    (case k2 => k_is)
    (case a3 => k_is)
    (case l3 => k_is)
    (case c3 => k_is)
    (case k3 => k_is)
    (case a4 => k_is)
    (case l4 => k_is)
    (case c4 => k_is)
    (case k4 => k_is)
    (case a5 => k_is)
    (case l5 => k_is)
    (case c5 => k_is)
    (case k5 => k_is)
    (case a6 => k_is)
    (case l6 => k_is)
    (case c6 => k_is)
    (case k6 => k_is)
    (case a7 => k_is)
    (case l7 => k_is)
    (case c7 => k_is)
    (case k7 => k_is)
    (case a8 => k_is)
    (case l8 => k_is)
    (case c8 => k_is)
    (case k8 => k_is)
    (case a9 => k_is)
    (case l9 => k_is)
    (case c9 => k_is)
    (case k9 => k_is)
    (case a10 => k_is)
    (case l10 => k_is)
    (case c10 => k_is)
    (case k10 => k_is)
    (case a11 => k_is)
    (case l11 => k_is)
    (case c11 => k_is)
    (case k11 => k_is)
    (case a12 => k_is)
    (case l12 => k_is)
    (case c12 => k_is)
    (case k12 => k_is)
    (case a13 => k_is)
    (case l13 => k_is)
    (case c13 => k_is)
    (case k13 => k_is)
    (case a14 => k_is)
    (case l14 => k_is)
    (case c14 => k_is)
    (case k14 => k_is)
    (case a15 => k_is)
    (case l15 => k_is)
    (case c15 => k_is)
    (case k15 => k_is)
    (case a16 => k_is)
    (case l16 => k_is)
    (case c16 => k_is)
    (case k16 => k_is)
    (case a17 => k_is)
    (case l17 => k_is)
    (case c17 => k_is)
    (case k17 => k_is)
    (case z0 => k_is)
    (case z1 => k_is)
    (case z2 => k_is)
    (case z3 => k_is)
    (case z4 => k_is)
    (case z5 => k_is)
    (case z6 => k_is)
    (case z7 => k_is)
    (case z8 => k_is)
    (case z9 => k_is)
    (case z10 => k_is)
    (case z11 => k_is)
    (case z12 => k_is)
    (case z13 => k_is)
    (case cst0 => k_is)
    (case rst0 => exact ⟨_, rfl⟩)
