import PyProof.Rows.All
import Wide.All
import OpenK.AllK
import Wide.FinOn
import HandS.ForMost
import HandS.WideBits
import HandS.Wide
import HandS.IsInst
import HandS.Evl
import HandS.Codes
import HandS.Defaults
import HandS.Style
import HandS.RaiseMore
import KE.KDictPairs
import KE.KDictSum
import HandS.DictTup
import HandS.SortRule
import HandS.SortInts
import HandS.Conv
import HandS.Deep
import HandS.Small
import HandS.TupAny
import PyProof.P3Eq
import HandS.ExcInit
import HandS.TryMany
import HandS.Lambda
import HandS.EndTab
import KE.KNestM
import HandS.ExcIs
import HandS.ExcField
import HandS.WordsExc
import KE.KExcIs
import KE.KTryMore
import HandS.MakeKwOnly
import HandS.Star
import KE.KOpsOwn
import KE.KCallOwn
import HandS.CallRecv
import HandS.OwnEq
import PyProof.InstNe
import PyProof.StrBlock2
import PyProof.StrReplace2
import HandS.Text
import HandS.FStr
import HandS.Replace
import HandS.ReplaceList
import HandS.Property
import HandS.Zip
import HandS.Strs
import HandS.Set
import HandS.SetFor
import PyProof.Rows.SortShellAny
import PySem.Challenge.RW_allscreens_k14_whole_regions_great_and_s
set_option Elab.async false
set_option linter.all false
set_option maxRecDepth 100000
set_option maxHeartbeats 1000000
/-! The base of all proofs here: pools of draws as opaque objects, calls, values told in a heap. -/
namespace Lw
open PySem PySem.Spec PyProof.Rows L2 Evl

/-! ### a pool of draws: a list of three ints, whatever they are -/
def poolP (p : Addr) : Heap → Prop := fun h => ∃ (a b c : Int) (its : List Value) (n : Nat), Vals [.int a, .int b, .int c] its ∧ h.get? p = some { cls := .type "list", data := .seq its.toArray n }
def Pool (H : Hp) (p : Addr) : Prop := H p = some (.ext (poolP p))
theorem three_line : (3 : Nat) ≤ sizeLine := by decide

section
variable {P : Program} {w : World} {H : Hp} {h : Heap} {p : Addr}
theorem pool_open (ok : HOk P w H h) (hp : Pool H p) : ∃ a b c : Int, HOk P w (upd H p (.lst [.int a, .int b, .int c])) h := by
  obtain ⟨⟨a, b, c, its, n, r, e⟩, _, _⟩ := ok p _ hp
  refine ⟨a, b, c, fun x o hx => ?_⟩
  by_cases hb : x = p
  · subst hb
    rw [upd_same] at hx
    cases hx
    exact ⟨three_line, its, n, r, e⟩
  · rw [upd_ne hb] at hx
    refine (ok x o hx).stay (fun _ _ _ q => q) (fun y q => ?_) (fun y xs q => ?_)
    · rw [upd_ne (ne_of q hp (by intro z; cases z))]
      exact q
    · rw [upd_ne (ne_of q hp (by intro z; cases z))]
      exact q
theorem pool_close {a b c : Int} (ok : HOk P w H h) (hp : H p = some (.lst [.int a, .int b, .int c])) : HOk P w (upd H p (.ext (poolP p))) h := by
  obtain ⟨_, its, n, r, e⟩ := ok p _ hp
  refine fun x o hx => ?_
  by_cases hb : x = p
  · subst hb
    rw [upd_same] at hx
    cases hx
    exact ⟨⟨a, b, c, its, n, r, e⟩, ⟨_, e⟩, fun h1 h2 ⟨a, b, c, its, n, r, e⟩ k => ⟨a, b, c, its, n, r, k _ e⟩⟩
  · rw [upd_ne hb] at hx
    refine (ok x o hx).stay (fun _ _ _ q => q) (fun y q => ?_) (fun y xs q => ?_)
    · rw [upd_ne (ne_of q hp (by intro z; cases z))]
      exact q
    · rw [upd_ne (ne_of q hp (by intro z; cases z))]
      exact q
end

section
variable {P : Program} {w : World} {K : PySem.W.Frag} {mg : Str → Option Value} {base : Heap} {k : Nat} {f : Addr} {fd : FuncData} {ps : List Str} {sp sp1 : Sp}
/-- at the end: a new list of three ints is handed back as a pool -/
theorem fn_newpool (F : FnOk P w K mg base CX0 k f fd ps sp1)
    (h : ∀ vs H Q E, sp vs H Q E → sp1 vs H (fun v H' => ∃ p a b c, v = .ref p ∧ H p = none ∧ H' p = some (.lst [.int a, .int b, .int c]) ∧ Q v (upd H' p (.ext (poolP p)))) E) :
    FnOk P w K mg base CX0 k f fd ps sp := by
  refine ⟨fun vs H Q E q => F.len _ _ _ _ (h _ _ _ _ q), fun A outer s H args us vs Q E hr he hb hv hs => ?_⟩
  refine codeAny_mono (F.run A outer s H args us vs _ E hr he hb hv (h _ _ _ _ hs)) fun r s' q => ?_
  cases r with
  | error e => exact q
  | ok fl =>
    cases fl with
    | next => exact q
    | brk => exact q
    | cont => exact q
    | ret u =>
      obtain ⟨v, H', os, bare, un, hok, r, p, a, b, c, rfl, hn, hp, q⟩ := q
      refine ⟨_, _, os, bare, ?_, pool_close hok hp, r, q⟩
      refine ⟨un.keep, un.slot, fun x o e n hx => ?_, un.there, fun x xs e => ?_, fun x o u e => ?_, fun x t e => ?_⟩
      · by_cases hb : x = p
        · subst hb
          have := un.free x o e n hx
          rw [hp] at this
          cases this
        · rw [upd_ne hb]
          exact un.free x o e n hx
      · rw [upd_ne (ne_of (un.tups x xs e) hp (by intro z; cases z))]
        exact un.tups x xs e
      · rw [upd_ne (ne_of (un.frzs x o u e) hp (by intro z; cases z))]
        exact un.frzs x o u e
      · obtain ⟨m, e2⟩ := un.tbls x t e
        rw [upd_ne (ne_of e2 hp (by intro z; cases z))]
        exact ⟨m, e2⟩
/-- a def that works at a pool's three ints, told as one that leaves the pool a pool -/
theorem fn_pool (F : FnOk P w K mg base CX0 k f fd ps sp1)
    (h : ∀ vs H Q E, sp vs H Q E → vs.length = ps.length ∧ ∃ p, Pool H p ∧ ∀ a b c : Int, sp1 vs (upd H p (.lst [.int a, .int b, .int c])) (fun v H' => ∃ a b c : Int, H' p = some (.lst [.int a, .int b, .int c]) ∧ Q v (upd H' p (.ext (poolP p)))) E) :
    FnOk P w K mg base CX0 k f fd ps sp := by
  refine ⟨fun vs H Q E q => (h _ _ _ _ q).1, fun A outer s H args us vs Q E hr he hb hv hs => ?_⟩
  obtain ⟨_, p, hp, hs⟩ := h _ _ _ _ hs
  obtain ⟨a, b, c, ok⟩ := pool_open he.hok hp
  have e1 : Env0 P w K mg base A outer s (upd H p (.lst [.int a, .int b, .int c])) :=
    ⟨he.frames, he.mod, fun x o e => ⟨(he.bs x o e).1, by rw [upd_ne (ne_of_none hp (he.bs x o e).2).symm]; exact (he.bs x o e).2⟩, he.bsz, he.funs,
      fun x hx => by rw [upd_ne (ne_of_none hp (he.frf x hx)).symm]; exact he.frf x hx, ok, he.bare⟩
  refine codeAny_mono (F.run A outer s _ args us vs _ E hr e1 hb hv (hs a b c)) fun r s' q => ?_
  cases r with
  | error e => exact q
  | ok fl =>
    cases fl with
    | next => exact q
    | brk => exact q
    | cont => exact q
    | ret u =>
      obtain ⟨v, H', os, bare, un, hok, r, a', b', c', hq, q⟩ := q
      refine ⟨_, _, os, bare, ?_, pool_close hok hq, r, q⟩
      have nn : ∀ {x}, H x = none → (upd H p (.lst [.int a, .int b, .int c])) x = none := fun {x} n => by rw [upd_ne (ne_of_none hp n).symm]; exact n
      refine ⟨fun x o e n => un.keep x o e (nn n), fun x o e n => un.slot x o e (nn n), fun x o e n hx => ?_, un.there, fun x xs e => ?_, fun x o u e => ?_, fun x t e => ?_⟩
      · rw [upd_ne (ne_of_none hp n).symm]
        exact un.free x o e (nn n) hx
      · have hb : x ≠ p := ne_of e hp (by intro z; cases z)
        rw [upd_ne hb]
        exact un.tups x xs (by rw [upd_ne hb]; exact e)
      · have hb : x ≠ p := ne_of e hp (by intro z; cases z)
        rw [upd_ne hb]
        exact un.frzs x o u (by rw [upd_ne hb]; exact e)
      · have hb : x ≠ p := ne_of e hp (by intro z; cases z)
        obtain ⟨m, e2⟩ := un.tbls x t (by rw [upd_ne hb]; exact e)
        exact ⟨m, by rw [upd_ne hb]; exact e2⟩
end

/-! ### a def of the text, its name; a def that may be called -/
structure DefAt (K : PySem.W.Frag) (mg : Str → Option Value) (x : Str) (st : Stmt) : Prop where
  ex : ∃ (f : Addr) (fd : FuncData), Fun K x x st f fd ∧ mg x = some (.ref f)
/-- all parameters are written, by position -/
def Bnd (x : Str) (st : Stmt) (ps : List Str) : Prop := ∀ (kV doc pm : Value) (an : Option Addr) (cdv ct : Value) (us : List Value), us.length = ps.length →
  bindArgs (PySem.W.fnOf x x (defArgs st) (defBody st) (defScope st) .none kV doc pm an cdv ct) ⟨us, []⟩ = pure (ps.zip us)
/-- n by position, the others by the names ks -/
def BndK (x : Str) (st : Stmt) (ps : List Str) (n : Nat) (ks : List Str) (g : {α : Type} → List α → List α → List α) : Prop :=
  ∀ (kV doc pm : Value) (an : Option Addr) (cdv ct : Value) (us ws : List Value), us.length = n → ws.length = ks.length →
  bindArgs (PySem.W.fnOf x x (defArgs st) (defBody st) (defScope st) .none kV doc pm an cdv ct) ⟨us, ks.zip ws⟩ = pure (ps.zip (g us ws))
structure Cl (P : Program) (w : World) (K : PySem.W.Frag) (mg : Str → Option Value) (base : Heap) (CX : CXT) (k : Nat) (x : Str) (st : Stmt) (ps : List Str) (sp : Sp) : Prop where
  ex : ∃ (f : Addr) (fd : FuncData), Fun K x x st f fd ∧ FnOk P w K mg base CX k f fd ps sp ∧ mg x = some (.ref f)
section
variable {P : Program} {w : World} {K : PySem.W.Frag} {mg : Str → Option Value} {base : Heap} {k : Nat} {x : Str} {st : Stmt} {ps N : List Str} {sp sp1 : Sp}
theorem cl_of (D : DefAt K mg x st) (S : FnScope N ps (defScope st)) (len : ∀ vs H Q E, sp vs H Q E → vs.length = ps.length)
    (hbody : ∀ (f : Addr) (cdv : Value) (A : Around) (outer : List Env) (s : Shared) (H : Hp) (vs : List V) (Q : VK) (E : XK), Room k (A.deeper (envOfC x (defScope st) s.heap.objs.size f cdv)) → sp vs H Q E →
      ∃ t, PSs (cxOf CX0 P w K mg base N x (defScope st) f cdv A outer s H E).nox (defBody st) t ∧ t { nx := fun _ H' => Q .non H', rt := Q } (start N vs) H) : Cl P w K mg base CX0 (k + 1) x st ps sp := by
  obtain ⟨f, fd, F, m⟩ := D.ex
  exact ⟨f, fd, F, F.ok S len (hbody f), m⟩
theorem Cl.pool (c : Cl P w K mg base CX0 k x st ps sp1)
    (h : ∀ vs H Q E, sp vs H Q E → vs.length = ps.length ∧ ∃ p, Pool H p ∧ ∀ a b c : Int, sp1 vs (upd H p (.lst [.int a, .int b, .int c])) (fun v H' => ∃ a b c : Int, H' p = some (.lst [.int a, .int b, .int c]) ∧ Q v (upd H' p (.ext (poolP p)))) E) :
    Cl P w K mg base CX0 k x st ps sp := by
  obtain ⟨f, fd, F, o, m⟩ := c.ex
  exact ⟨f, fd, F, fn_pool o h, m⟩
theorem Cl.newpool (c : Cl P w K mg base CX0 k x st ps sp1)
    (h : ∀ vs H Q E, sp vs H Q E → sp1 vs H (fun v H' => ∃ p a b c, v = .ref p ∧ H p = none ∧ H' p = some (.lst [.int a, .int b, .int c]) ∧ Q v (upd H' p (.ext (poolP p)))) E) :
    Cl P w K mg base CX0 k x st ps sp := by
  obtain ⟨f, fd, F, o, m⟩ := c.ex
  exact ⟨f, fd, F, fn_newpool o h, m⟩
theorem Cl.imp {CX : CXT} (c : Cl P w K mg base CX k x st ps sp) (h : ∀ vs H Q E, sp1 vs H Q E → sp vs H Q E) : Cl P w K mg base CX k x st ps sp1 := by
  obtain ⟨f, fd, F, o, m⟩ := c.ex
  exact ⟨f, fd, F, o.imp h, m⟩
end
section
variable {X : Cx} {CX : CXT} {k j n : Nat} {x : Str} {st : Stmt} {sp : Sp} {ps ks : List Str} {p pos : Pos} {e : Expr} {es : List Expr} {kws : List Keyword} {t tk : TA} {E : XK}
/-- f(a, ..): all parameters by position -/
theorem pe_cl (c : Cl X.prog X.w X.K X.mg X.base CX k x st ps sp) (b : Bnd x st ps) (hr : Room j X.A) (hk : k ≤ j) (hg : Gl X x) (hx : Passes CX X E) (ha : PA X (e :: es) t)
    (hdb : (x == ("__debug__" : Str)) = false := by decide) (he : starEach (e :: es) X.env = (false, eval e X.env) :: starEach es X.env := by rfl) (hpl : (backTo pos (starEach es X.env)).any (·.1) = false := by rfl) :
    PE X (.Call (.Name x p) (e :: es) [] pos) (tCall sp [] E t) := by
  obtain ⟨f, fd, F, o, m⟩ := c.ex
  exact pe_call o (hr.mono hk) hg m F.kp (F.binds b) .nil hx ha hdb he hpl
theorem kbn_of {K : PySem.W.Frag} {f : Addr} {fd : FuncData} {g : {α : Type} → List α → List α → List α} (F : Fun K x x st f fd) (b : BndK x st ps n ks g)
    (hrel : ∀ {vs zs : List V} {us ws : List Value}, Vals vs us → Vals zs ws → Vals (g vs zs) (g us ws)) : KBn K fd ps n ks (fun us ws => g us ws) (fun vs zs => g vs zs) := by
  obtain ⟨oc, od, kV, doc, pm, an, cdv, ct, osl, rfl, lk, hcd⟩ := F.ex
  exact ⟨fun s us ws _ h1 h2 => .of_eq (b kV doc pm an cdv ct us ws h1 h2), hrel⟩
/-- f(a, .., k = v, ..): all parameters written -/
theorem pe_clk {g : {α : Type} → List α → List α → List α} (c : Cl X.prog X.w X.K X.mg X.base CX k x st ps sp) (b : BndK x st ps n ks g)
    (hrel : ∀ {vs zs : List V} {us ws : List Value}, Vals vs us → Vals zs ws → Vals (g vs zs) (g us ws))
    (hr : Room j X.A) (hk : k ≤ j) (hg : Gl X x) (hx : Passes CX X E) (ha : PA X (e :: es) t) (hkw : PK X kws tk) (hall : (backToKw pos (keywordEach kws X.env)).all (·.1.isSome) = true := by rfl)
    (hks : (backToKw pos (keywordEach kws X.env)).filterMap (·.1) = ks := by rfl) (hdb : (x == ("__debug__" : Str)) = false := by decide) (he : starEach (e :: es) X.env = (false, eval e X.env) :: starEach es X.env := by rfl)
    (hpl : ((backTo pos (starEach (e :: es) X.env)).any (·.1) || (backToKw pos (keywordEach kws X.env)).any (·.1.isNone)) = false := by rfl) :
    PE X (.Call (.Name x p) (e :: es) kws pos) (tCallN n ks.length sp g E t tk) := by
  obtain ⟨f, fd, F, o, m⟩ := c.ex
  exact pe_callN o (hr.mono hk) hg m F.kp (kbn_of F b hrel) hx ha hkw hall hks hdb he hpl
/-- f(k = v, ..): all by name -/
theorem pe_clk0 {g : {α : Type} → List α → List α → List α} (c : Cl X.prog X.w X.K X.mg X.base CX k x st ps sp) (b : BndK x st ps 0 ks g)
    (hrel : ∀ {vs zs : List V} {us ws : List Value}, Vals vs us → Vals zs ws → Vals (g vs zs) (g us ws))
    (hr : Room j X.A) (hk : k ≤ j) (hg : Gl X x) (hx : Passes CX X E) (hkw : PK X kws tk) (hall : (backToKw pos (keywordEach kws X.env)).all (·.1.isSome) = true := by rfl)
    (hks : (backToKw pos (keywordEach kws X.env)).filterMap (·.1) = ks := by rfl) (hdb : (x == ("__debug__" : Str)) = false := by decide)
    (hpl : ((backTo pos (starEach [] X.env)).any (·.1) || (backToKw pos (keywordEach kws X.env)).any (·.1.isNone)) = false := by rfl) :
    PE X (.Call (.Name x p) [] kws pos) (tCallN 0 ks.length sp g E tNil tk) := by
  obtain ⟨f, fd, F, o, m⟩ := c.ex
  refine ⟨fun pins s σ H Q I h => ?_⟩
  refine wpAny_Call_Name_kw (ld_glob I hg m ?_ hdb)
  refine PySem.W.callWith_KW0 (h₀ := X.base) I.ok.mod.kin F.kp hall ?_ hpl
  refine thn (hkw.run pos pins s σ H _ I h) fun ws s2 ⟨zs, H2, I2, rz, l1, l2, q2⟩ => ⟨I2.kIn, ?_⟩
  rw [hks]
  exact run_fnN o (hr.mono hk) (kbn_of F b hrel) hx I2 .nil rz l1 l2 q2
/-- repr of a truth -/
theorem call_repr_bl : CallR X (.builtin "repr") (fun xs H Q => ∃ b, xs = [.bl b] ∧ Q (.str (if b then "True" else "False")) H) := by
  intro pins s σ H xs us Q I r h
  obtain ⟨b, rfl, q⟩ := h
  obtain ⟨u, rfl, rfl⟩ := vals1 r
  exact PySem.P.repr_of_bool ⟨.str _, H, I.tok _, ⟨_, rfl⟩, q⟩
end

section
variable {P : Program} {w : World} {K : PySem.W.Frag} {mg : Str → Option Value} {base : Heap} {k : Nat} {x : Str} {st : Stmt} {ps : List Str} {sp : Sp} {CX : CXT}
theorem defAt_mk {h : Heap} {f : Addr} {oc : Value} {od an : Option Addr} {osl : Array (Option Value)} {kV doc pm cdv ct : Value} (X : K.In h) (G : h.Ns mainGlobals mg) (a : PySem.W.nsIn K mainGlobals x = some (some (.ref f)))
    (l : K.lookup f = some ⟨oc, od, .func (PySem.W.fnOf x x (defArgs st) (defBody st) (defScope st) .none kV doc pm an cdv ct), osl⟩) (c : PySem.W.codeIn K cdv x = true) (kp : PySem.W.keepIn K (.ref f) = true) : DefAt K mg x st :=
  ⟨f, _, fun_mk l c kp, PySem.W.mg_of X G a⟩
/-- a def's object is one -/
theorem Cl.at {f : Addr} {fd : FuncData} (c : Cl P w K mg base CX k x st ps sp) (F : Fun K x x st f fd) (m : mg x = some (.ref f)) : FnOk P w K mg base CX k f fd ps sp := by
  obtain ⟨f', fd', F', o, m'⟩ := c.ex
  rw [m] at m'
  cases m'
  obtain ⟨oc, od, kV, doc, pm, an, cdv, ct, osl, rfl, lk, _⟩ := F.ex
  obtain ⟨oc', od', kV', doc', pm', an', cdv', ct', osl', rfl, lk', _⟩ := F'.ex
  have e := Option.some.inj (lk.symm.trans lk')
  injection e with _ _ e _
  injection e with e
  rw [e]
  exact o
end

/-! ### the law's draws -/
/-- what is handed back is told by P, all that stood stands -/
def Gets (Pv : V → Hp → Prop) (H : Hp) (Q : VK) : Prop := ∀ v H', Ex H H' → Pv v H' → Q v H'
def spCell (K : PySem.W.Frag) : Sp := fun vs H Q _ => ∃ (a : Addr) (ns : List Int) (i : Int), vs = [.ref a, .int i] ∧ SqL K H a (ns.map V.int) ∧ ns.length ≤ 63 ∧ 0 ≤ i ∧ i ≤ 63 ∧ ∀ (v : Int) H', Ex H H' → Q (.int v) H'
def spPool : Sp := fun vs H Q _ => ∃ i : Int, vs = [.int i] ∧ ∀ p H', H p = none → Ex H H' → Pool H' p → Q (.ref p) H'
def spDraw : Sp := fun vs H Q _ => ∃ (p : Addr) (m : Int), vs = [.ref p, .int m] ∧ Pool H p ∧ 0 < m ∧ m < 2 ^ 160 ∧ ∀ (v : Int) H', Ex H H' → 0 ≤ v → v < m → Q (.int v) H'
def spPool1 : Sp := fun vs H Q _ => ∃ i : Int, vs = [.int i] ∧ ∀ p H' (a b c : Int), H p = none → H' p = some (.lst [.int a, .int b, .int c]) → Ex H H' → Q (.ref p) H'
def spDraw1 : Sp := fun vs H Q _ => ∃ (p : Addr) (m a b c : Int), vs = [.ref p, .int m] ∧ H p = some (.lst [.int a, .int b, .int c]) ∧ 0 < m ∧ m < 2 ^ 160 ∧
  ∀ (v : Int) H' (a b c : Int), (∀ x o, x ≠ p → H x = some o → H' x = some o) → H' p = some (.lst [.int a, .int b, .int c]) → 0 ≤ v → v < m → Q (.int v) H'
theorem spPool_of : ∀ vs H Q E, spPool vs H Q E → spPool1 vs H (fun v H' => ∃ p a b c, v = .ref p ∧ H p = none ∧ H' p = some (.lst [.int a, .int b, .int c]) ∧ Q v (upd H' p (.ext (poolP p)))) E := by
  rintro vs H Q E ⟨i, rfl, q⟩
  refine ⟨i, rfl, fun p H' a b c hn hp e => ⟨p, a, b, c, rfl, hn, hp, q p _ hn (fun x o hx => ?_) upd_same⟩⟩
  rw [upd_ne (ne_of_none hx hn)]
  exact e x o hx
theorem spDraw_of : ∀ vs H Q E, spDraw vs H Q E → vs.length = 2 ∧ ∃ p, Pool H p ∧ ∀ a b c : Int, spDraw1 vs (upd H p (.lst [.int a, .int b, .int c])) (fun v H' => ∃ a b c : Int, H' p = some (.lst [.int a, .int b, .int c]) ∧ Q v (upd H' p (.ext (poolP p)))) E := by
  rintro vs H Q E ⟨p, m, rfl, hp, h0, h1, q⟩
  refine ⟨rfl, p, hp, fun a b c => ⟨p, m, a, b, c, rfl, upd_same, h0, h1, fun v H' a' b' c' k hq v0 v1 => ⟨a', b', c', hq, q v _ (fun x o hx => ?_) v0 v1⟩⟩⟩
  by_cases hb : x = p
  · subst hb
    rw [hp] at hx
    cases hx
    exact upd_same
  · rw [upd_ne hb]
    exact k x o hb (by rw [upd_ne hb]; exact hx)
theorem log2_lt {m : Int} (h0 : 0 < m) (h1 : m < 2 ^ 160) : m.natAbs.log2 < 9000 := by
  have e : m.natAbs < 2 ^ 160 := by omega
  have := (Nat.log2_lt (by omega : m.natAbs ≠ 0)).mpr e
  omega
theorem cdivp {i m : Int} (h0 : 0 < m) (h1 : m < 2 ^ 160) : CDivP i m := ⟨h0, PyProof.noPylong_of_log2 (log2_lt h0 h1)⟩
theorem atI_0 {a b c : V} : atI [a, b, c] 0 = some a := rfl
theorem atI_1 {a b c : V} : atI [a, b, c] 1 = some b := rfl
theorem atI_2 {a b c : V} : atI [a, b, c] 2 = some c := rfl
theorem ex_rdL {K : PySem.W.Frag} {H H' : Hp} {a : Addr} {xs : List V} (e : Ex H H') (h : SqL K H a xs) : SqL K H' a xs := ex_l e h
theorem line_ge : (100000 : Nat) ≤ sizeLine := by decide
/-! ### tests with two ways -/
theorem ifD {p A B : Prop} [Decidable p] (h1 : p → A) (h2 : ¬ p → B) : if decide p = true then A else B := by
  by_cases h : p
  · rw [if_pos (decide_eq_true h)]; exact h1 h
  · rw [if_neg (by simpa using h)]; exact h2 h
theorem ifN {p A B : Prop} [Decidable p] (h1 : ¬ p → A) (h2 : p → B) : if (!decide p) = true then A else B := by
  by_cases h : p
  · rw [if_neg (by simpa using h)]; exact h2 h
  · rw [if_pos (by simpa using h)]; exact h1 h
theorem ifB {b : Bool} {A B : Prop} (h1 : b = true → A) (h2 : b = false → B) : if b = true then A else B := by
  cases b with
  | true => exact h1 rfl
  | false => exact h2 rfl
theorem upd_new {H : Hp} {t a : Addr} {o u : HO} (ht : H t = none) (ha : H a = some o) : upd H t u a = some o := by
  rw [upd_ne (ne_of_none ha ht)]
  exact ha
theorem ex_at {H H' : Hp} {a : Addr} {o : HO} (e : Ex H H') (ha : H a = some o) : H' a = some o := e a o ha
/-- all but p stand -/
def But (p : Addr) (H H' : Hp) : Prop := ∀ x o, x ≠ p → H x = some o → H' x = some o
theorem But.refl {p : Addr} {H : Hp} : But p H H := fun _ _ _ h => h
theorem But.new {p t : Addr} {H H' : Hp} {o : HO} (b : But p H H') (ht : H' t = none) : But p H (upd H' t o) := fun x u n h => upd_new ht (b x u n h)
theorem But.mut {p : Addr} {H H' : Hp} {o : HO} (b : But p H H') : But p H (upd H' p o) := fun x u n h => by
  rw [upd_ne n]
  exact b x u n h
theorem cut_int {ns : List Int} {lo hi : Option Int} {i : Nat} {x : V} (h : (cutV (ns.map V.int) lo hi)[i]? = some x) : ∃ n, x = .int n := by
  have hm := List.mem_of_getElem? h
  have hm2 : x ∈ ns.map V.int := by
    unfold cutV at hm
    exact List.mem_of_mem_drop (List.mem_of_mem_take hm)
  obtain ⟨n, _, e⟩ := List.mem_map.mp hm2
  exact ⟨n, e.symm⟩

/-! ### kinds of values -/
inductive Kd (H : Hp) : V → String → Prop
  | non : Kd H .non "NoneType"
  | bl (b : Bool) : Kd H (.bl b) "bool"
  | int (i : Int) : Kd H (.int i) "int"
  | str (x : Str) : Kd H (.str x) "str"
  | lst {a : Addr} {xs : List V} (h : H a = some (.lst xs)) : Kd H (.ref a) "list"
  | tup {a : Addr} {xs : List V} (h : H a = some (.tup xs)) : Kd H (.ref a) "tuple"
  | fz {a : Addr} {o : Obj} {xs : List V} (h : H a = some (.frz o (.tup xs))) : Kd H (.ref a) "tuple"
  | dK {a : Addr} {kvs : List (Key × V)} (h : H a = some (.dK kvs)) : Kd H (.ref a) "dict"
def kinds : List String := ["NoneType", "bool", "int", "str", "list", "tuple", "dict"]
def isK (n c : String) : Bool := n == c || (n == "bool" && c == "int")
theorem Kd.mem {H : Hp} {v : V} {n : String} (k : Kd H v n) : n ∈ kinds := by cases k <;> decide
theorem Kd.ty {K : PySem.W.Frag} {H : Hp} {v : V} {n : String} (k : Kd H v n) : TyX K H v (.type n) := by
  cases k with
  | non => exact .base .non
  | bl b => exact .base (.bl b)
  | int i => exact .base (.int i)
  | str x => exact .base (.str x)
  | lst h => exact .base (.lst h)
  | tup h => exact .base (.tup h)
  | fz h => exact .fTuple h
  | dK h => exact .base (.dK h)
theorem kit_all : ∀ n ∈ kinds, ∀ c ∈ ["int", "bool", "tuple", "str", "list", "dict"], kitB n c = some (isK n c) := by decide +kernel
theorem kit_k {K : PySem.W.Frag} {H : Hp} {v : V} {n c : String} (k : Kd H v n) (hc : c ∈ ["int", "bool", "tuple", "str", "list", "dict"]) : PySem.W.kitOne K (.type n) (.type c) = some (isK n c) := kit_ty (kit_all n k.mem c hc)
theorem Kd.ex {H H' : Hp} {v : V} {n : String} (k : Kd H v n) (e : Ex H H') : Kd H' v n := by
  cases k with
  | non => exact .non
  | bl b => exact .bl b
  | int i => exact .int i
  | str x => exact .str x
  | lst h => exact .lst (e _ _ h)
  | tup h => exact .tup (e _ _ h)
  | fz h => exact .fz (e _ _ h)
  | dK h => exact .dK (e _ _ h)
/-- an integer (no truth) within bounds -/
def inB (lo hi : Int) : V → Bool
  | .int i => decide (lo ≤ i) && decide (i ≤ hi)
  | _ => false
def spInteger : Sp := fun vs H Q _ => ∃ v n, vs = [v] ∧ Kd H v n ∧ Q (.bl (n == "int")) H
def spBetween : Sp := fun vs H Q _ => ∃ v lo hi n, vs = [v, .int lo, .int hi] ∧ Kd H v n ∧ Q (.bl (inB lo hi v)) H
def spNumber : Sp := fun vs H Q _ => ∃ v n, vs = [v] ∧ Kd H v n ∧ Q (.bl (inB (-1000000000000) 1000000000000 v)) H
def rectL : List V → Bool
  | [a, b, c, d] => inB (-1000000000000) 1000000000000 a && inB (-1000000000000) 1000000000000 b && inB 0 1000000000000 c && inB 0 1000000000000 d
  | _ => false
/-- a value that is looked at as a rectangle: no tuple, or a tuple of values of known kinds -/
inductive Th (H : Hp) : V → Bool → Prop
  | other {v : V} {n : String} (k : Kd H v n) (h : n ≠ "tuple") : Th H v false
  | tup {a : Addr} {xs : List V} (h : H a = some (.tup xs)) (ks : ∀ x ∈ xs, ∃ n, Kd H x n) : Th H (.ref a) (rectL xs)
def spRect : Sp := fun vs H Q _ => ∃ v b, vs = [v] ∧ Th H v b ∧ Q (.bl b) H
theorem int_yes {H : Hp} {v : V} {n : String} (k : Kd H v n) (h : isK n "int" = true) : (n == "int") = !isK n "bool" := by
  have hm := k.mem
  exact (by decide : ∀ n ∈ kinds, isK n "int" = true → (n == "int") = !isK n "bool") n hm h
theorem int_no {n : String} (h : isK n "int" = false) : (n == "int") = false := by
  unfold isK at h
  cases e : n == "int" with
  | true => rw [e] at h; cases h
  | false => rfl
theorem Kd.of_int {H : Hp} {v : V} {n : String} (k : Kd H v n) (h : (n == "int") = true) : ∃ i, v = .int i := by
  cases k <;> first | exact ⟨_, rfl⟩ | exact absurd h (by decide)
theorem inB_no {H : Hp} {lo hi : Int} {v : V} {n : String} (k : Kd H v n) (h : (n == "int") = false) : inB lo hi v = false := by
  cases k <;> first | rfl | exact absurd h (by decide)
theorem isK_ne {n c : String} (h : n ≠ c) (hb : c ≠ "int") : isK n c = false := by
  unfold isK
  rw [beq_eq_false_iff_ne.mpr h, beq_eq_false_iff_ne.mpr hb]
  cases n == "bool" <;> rfl
theorem rectL_len {xs : List V} (h : xs.length ≠ 4) : rectL xs = false := by
  unfold rectL
  split
  · exact absurd rfl h
  · rfl
theorem four {xs : List V} (h : xs.length = 4) : ∃ a b c d, xs = [a, b, c, d] := match xs, h with
  | [a, b, c, d], _ => ⟨a, b, c, d, rfl⟩
theorem lenN {n m : Nat} : V.int (n : Int) = V.int (m : Int) ↔ n = m := by
  constructor
  · intro h
    injection h with h
    exact Int.ofNat_inj.mp h
  · intro h; rw [h]
theorem ifNt {b : Bool} {A B : Prop} (h1 : b = false → A) (h2 : b = true → B) : if (!b) = true then A else B := by
  cases b with
  | true => exact h2 rfl
  | false => exact h1 rfl

theorem sqlK {K K' : PySem.W.Frag} {H : Hp} {a : Addr} {xs : List V} (h : SqL K H a xs) (e : K' = K) : SqL K' H a xs := e ▸ h
theorem sqtK {K K' : PySem.W.Frag} {H : Hp} {a : Addr} {xs : List V} (h : SqT K H a xs) (e : K' = K) : SqT K' H a xs := e ▸ h
/-! ### list comprehensions, told item by item -/
/-- all but lists stand -/
def ExT (H H' : Hp) : Prop := ∀ a o, (∀ xs, o ≠ HO.lst xs) → H a = some o → H' a = some o
theorem Ex.exT {H H' : Hp} (e : Ex H H') : ExT H H' := fun a o _ h => e a o h
theorem ExT.wr {H : Hp} {D : Addr} {xs : List V} {o : HO} (h : H D = some (.lst xs)) : ExT H (upd H D o) := fun a u n ha => by
  rw [upd_ne (ne_of ha h (n xs))]
  exact ha
theorem ExT.trans {H H1 H2 : Hp} (a : ExT H H1) (b : ExT H1 H2) : ExT H H2 := fun x o n h => b x o n (a x o n h)
/-- what a turn makes: some item or none -/
abbrev PeT := Nat → Option V → Hp → Prop
def Mono (Pe : PeT) : Prop := ∀ i o H H', ExT H H' → Pe i o H → Pe i o H'
structure LcI (H1 : Hp) (D : Addr) (Pe : PeT) (i : Nat) (H : Hp) : Prop where
  new : H1 D = none
  ex : Ex H1 H
  its : ∃ os : List (Option V), os.length = i ∧ H D = some (.lst (os.filterMap id)) ∧ ∀ m o, os[m]? = some o → Pe m o H
section
variable {H1 H H4 : Hp} {D : Addr} {Pe : PeT} {i n : Nat} {y : V}
theorem LcI.start (h : H1 D = none) : LcI H1 D Pe 0 (upd H1 D (.lst [])) := ⟨h, Ex.new h, [], rfl, upd_same, fun m o e => by simp at e⟩
theorem LcI.more (I : LcI H1 D Pe i H) (mono : Mono Pe) (hi : i < 50000) (e : Ex H H4) (p : Pe i (some y) H4) :
    ∃ acc, H4 D = some (.lst acc) ∧ acc.length < sizeLine ∧ LcI H1 D Pe (i + 1) (upd H4 D (.lst (acc ++ [y]))) := by
  obtain ⟨hn, e1, os, hl, hD, hp⟩ := I
  have hD4 := e _ _ hD
  have hT : ExT H4 (upd H4 D (.lst (os.filterMap id ++ [y]))) := ExT.wr hD4
  refine ⟨_, hD4, ?_, hn, Ex.mut (e1.trans e) hn, os ++ [some y], ?_, ?_, fun m o hm => ?_⟩
  · have := List.length_filterMap_le id os
    exact Nat.lt_of_lt_of_le (by omega) line_ge
  · rw [List.length_append, hl]; rfl
  · rw [upd_same, List.filterMap_append]; rfl
  · by_cases hb : m < os.length
    · rw [List.getElem?_append_left hb] at hm
      exact mono _ _ _ _ ((Ex.exT e).trans hT) (hp m o hm)
    · rw [List.getElem?_append_right (Nat.le_of_not_lt hb)] at hm
      have h0 : m - os.length = 0 := by
        cases hz : m - os.length with
        | zero => rfl
        | succ k => rw [hz] at hm; simp at hm
      rw [h0] at hm
      have e2 : o = some y := (Option.some.inj hm).symm
      have e3 : m = i := by omega
      subst e2 e3
      exact mono _ _ _ _ hT p
theorem LcI.less (I : LcI H1 D Pe i H) (mono : Mono Pe) (e : Ex H H4) (p : Pe i none H4) : LcI H1 D Pe (i + 1) H4 := by
  obtain ⟨hn, e1, os, hl, hD, hp⟩ := I
  refine ⟨hn, e1.trans e, os ++ [none], ?_, ?_, fun m o hm => ?_⟩
  · rw [List.length_append, hl]; rfl
  · rw [List.filterMap_append, e _ _ hD]
    show _ = some (HO.lst (os.filterMap id ++ []))
    rw [List.append_nil]
  · by_cases hb : m < os.length
    · rw [List.getElem?_append_left hb] at hm
      exact mono _ _ _ _ (Ex.exT e) (hp m o hm)
    · rw [List.getElem?_append_right (Nat.le_of_not_lt hb)] at hm
      have h0 : m - os.length = 0 := by
        cases hz : m - os.length with
        | zero => rfl
        | succ k => rw [hz] at hm; simp at hm
      rw [h0] at hm
      have e2 : o = none := (Option.some.inj hm).symm
      have e3 : m = i := by omega
      subst e2 e3
      exact p
/-- a turn: from item x -/
def LcTurn (Pe : PeT) (H1 : Hp) (g : TG) (tt : TT) (te : TE) (vs : List Nat) (σ : L2.St) (i : Nat) (x : V) : Prop := ∀ H, Ex H1 H → ∀ (Q1 : VK) (Q2 : Hp → Prop), (∀ y H4, Ex H H4 → Pe i (some y) H4 → Q1 y H4) → (∀ H4, Ex H H4 → Pe i none H4 → Q2 H4) →
  g x (wipe σ vs) H fun σ2 H2 => wipe σ2 vs = wipe σ vs ∧ tt σ2 H2 fun b H3 => if b = true then te σ2 H3 Q1 else Q2 H3
variable {g : TG} {tt : TT} {te : TE} {vs : List Nat} {σ : L2.St} {Qd : Hp → Prop} {K : PySem.W.Frag} {a : Addr} {xs : List V}
theorem lcR (Pe : PeT) (mono : Mono Pe) (hD : H1 D = none) (hn : n ≤ 50000) (hs : ∀ i, i < n → LcTurn Pe H1 g tt te vs σ i (.int ((0 : Int) + i)))
    (hd : ∀ H' (os : List (Option V)), Ex H1 H' → os.length = n → H' D = some (.lst (os.filterMap id)) → (∀ i o, os[i]? = some o → Pe i o H') → Qd H') :
    ∃ W : Nat → Nat → Hp → Prop, (∃ m, W 0 m (upd H1 D (.lst []))) ∧ ∀ i m H, W i m H →
      ((Itr 0 n).stop i H ∧ Qd H) ∨ ((Itr 0 n).go i H ∧ ∃ Nx : Hp → Prop, (∀ H', Nx H' → ∃ m', m' < m ∧ W (i + 1) m' H') ∧ ∀ x H', (Itr 0 n).yld i H x H' → g x (wipe σ vs) H' fun σ2 H2 => wipe σ2 vs = wipe σ vs ∧ tt σ2 H2 fun b H3 =>
        if b = true then te σ2 H3 fun y H4 => ∃ acc, H4 D = some (.lst acc) ∧ acc.length < sizeLine ∧ Nx (upd H4 D (.lst (acc ++ [y]))) else Nx H3) :=
  lc_range (LcI H1 D Pe) (LcI.start hD) (fun i H hi I => hs i hi H I.ex _ _ (fun y H4 e p => I.more mono (by omega) e p) (fun H4 e p => I.less mono e p))
    (fun H I => by obtain ⟨_, e, os, hl, h, p⟩ := I; exact hd H os e hl h p)
theorem lcL (Pe : PeT) (mono : Mono Pe) (hD : H1 D = none) (hx : SqL K H1 a xs) (hn : xs.length ≤ 50000) (hs : ∀ i x, xs[i]? = some x → LcTurn Pe H1 g tt te vs σ i x)
    (hd : ∀ H' (os : List (Option V)), Ex H1 H' → os.length = xs.length → H' D = some (.lst (os.filterMap id)) → (∀ i o, os[i]? = some o → Pe i o H') → Qd H') :
    ∃ W : Nat → Nat → Hp → Prop, (∃ m, W 0 m (upd H1 D (.lst []))) ∧ ∀ i m H, W i m H →
      ((Itl K a).stop i H ∧ Qd H) ∨ ((Itl K a).go i H ∧ ∃ Nx : Hp → Prop, (∀ H', Nx H' → ∃ m', m' < m ∧ W (i + 1) m' H') ∧ ∀ x H', (Itl K a).yld i H x H' → g x (wipe σ vs) H' fun σ2 H2 => wipe σ2 vs = wipe σ vs ∧ tt σ2 H2 fun b H3 =>
        if b = true then te σ2 H3 fun y H4 => ∃ acc, H4 D = some (.lst acc) ∧ acc.length < sizeLine ∧ Nx (upd H4 D (.lst (acc ++ [y]))) else Nx H3) :=
  lc_list (LcI H1 D Pe) (LcI.start hD) (fun i H _ I => ex_l I.ex hx) (fun i x H hi I => hs i x hi H I.ex _ _ (fun y H4 e p => I.more mono (by have := (List.getElem?_eq_some_iff.mp hi).1; omega) e p) (fun H4 e p => I.less mono e p))
    (fun H I => by obtain ⟨_, e, os, hl, h, p⟩ := I; exact hd H os e hl h p)
theorem lcT (Pe : PeT) (mono : Mono Pe) (hD : H1 D = none) (hx : SqT K H1 a xs) (hn : xs.length ≤ 50000) (hs : ∀ i x, xs[i]? = some x → LcTurn Pe H1 g tt te vs σ i x)
    (hd : ∀ H' (os : List (Option V)), Ex H1 H' → os.length = xs.length → H' D = some (.lst (os.filterMap id)) → (∀ i o, os[i]? = some o → Pe i o H') → Qd H') :
    ∃ W : Nat → Nat → Hp → Prop, (∃ m, W 0 m (upd H1 D (.lst []))) ∧ ∀ i m H, W i m H →
      ((Itt K a).stop i H ∧ Qd H) ∨ ((Itt K a).go i H ∧ ∃ Nx : Hp → Prop, (∀ H', Nx H' → ∃ m', m' < m ∧ W (i + 1) m' H') ∧ ∀ x H', (Itt K a).yld i H x H' → g x (wipe σ vs) H' fun σ2 H2 => wipe σ2 vs = wipe σ vs ∧ tt σ2 H2 fun b H3 =>
        if b = true then te σ2 H3 fun y H4 => ∃ acc, H4 D = some (.lst acc) ∧ acc.length < sizeLine ∧ Nx (upd H4 D (.lst (acc ++ [y]))) else Nx H3) :=
  lc_tup (LcI H1 D Pe) (LcI.start hD) (fun i H _ I => ex_t I.ex hx) (fun i x H hi I => hs i x hi H I.ex _ _ (fun y H4 e p => I.more mono (by have := (List.getElem?_eq_some_iff.mp hi).1; omega) e p) (fun H4 e p => I.less mono e p))
    (fun H I => by obtain ⟨_, e, os, hl, h, p⟩ := I; exact hd H os e hl h p)
end
/-- every turn makes an item: Pf tells it -/
def All (Pf : Nat → V → Hp → Prop) : PeT := fun i o H => ∃ y, o = some y ∧ Pf i y H
theorem All.list {Pf : Nat → V → Hp → Prop} {H : Hp} : ∀ {os : List (Option V)} {k : Nat}, (∀ i o, os[i]? = some o → All Pf (k + i) o H) → ∃ ys : List V, os.filterMap id = ys ∧ ys.length = os.length ∧ ∀ i y, ys[i]? = some y → Pf (k + i) y H
  | [], _, _ => ⟨[], rfl, rfl, fun i y e => by simp at e⟩
  | o :: os, k, h => by
    obtain ⟨y, rfl, p⟩ := h 0 o rfl
    obtain ⟨ys, e1, e2, e3⟩ := All.list (os := os) (k := k + 1) (fun i o e => by
      have := h (i + 1) o e
      rwa [show k + (i + 1) = k + 1 + i by omega] at this)
    refine ⟨y :: ys, by rw [← e1]; rfl, by rw [List.length_cons, List.length_cons, e2], fun i z e => ?_⟩
    cases i with
    | zero =>
      have : y = z := Option.some.inj e
      subst this
      exact p
    | succ i =>
      have := e3 i z e
      rwa [show k + (i + 1) = k + 1 + i by omega]
theorem All.end {Pf : Nat → V → Hp → Prop} {H : Hp} {os : List (Option V)} (h : ∀ i o, os[i]? = some o → All Pf i o H) : ∃ ys : List V, os.filterMap id = ys ∧ ys.length = os.length ∧ ∀ i y, ys[i]? = some y → Pf i y H := by
  obtain ⟨ys, a, b, c⟩ := All.list (k := 0) (fun i o e => by rw [Nat.zero_add]; exact h i o e)
  exact ⟨ys, a, b, fun i y e => by have := c i y e; rwa [Nat.zero_add] at this⟩
theorem all_mono {Pf : Nat → V → Hp → Prop} (h : ∀ i v H H', ExT H H' → Pf i v H → Pf i v H') : Mono (All Pf) := fun i o H H' e ⟨y, a, b⟩ => ⟨y, a, h i y H H' e b⟩
theorem Kd.up {H H' : Hp} {v : V} {n : String} (e : Ex H H') (k : Kd H v n) : Kd H' v n := k.ex e
theorem Kd.new {H : Hp} {t : Addr} {o : HO} {v : V} {n : String} (h : H t = none) (k : Kd H v n) : Kd (upd H t o) v n := k.ex (Ex.new h)
theorem atI_in {xs : List V} {d : Int} (h0 : 0 ≤ d) (h1 : d < xs.length) : ∃ v, v ∈ xs ∧ atI xs d = some v := by
  obtain ⟨j, rfl⟩ := Int.eq_ofNat_of_zero_le h0
  have hj : j < xs.length := by omega
  exact ⟨xs[j], List.getElem_mem hj, atI_nat (List.getElem?_eq_getElem hj)⟩
theorem Th.up {H H' : Hp} {v : V} {b : Bool} (e : Ex H H') (k : Th H v b) : Th H' v b := by
  cases k with
  | other k h => exact .other (k.ex e) h
  | tup h ks => exact .tup (e _ _ h) fun x hx => let ⟨n, k⟩ := ks x hx; ⟨n, k.ex e⟩
theorem Th.kd {H : Hp} {v : V} {b : Bool} (k : Th H v b) : ∃ n, Kd H v n := by
  cases k with
  | other k h => exact ⟨_, k⟩
  | tup h ks => exact ⟨_, .tup h⟩
theorem Pool.up {H H' : Hp} {p : Addr} (e : Ex H H') (h : Pool H p) : Pool H' p := e _ _ h
theorem Pool.new {H : Hp} {t p : Addr} {o : HO} (ht : H t = none) (h : Pool H p) : Pool (upd H t o) p := upd_new ht h
theorem Th.new {H : Hp} {t : Addr} {o : HO} {v : V} {b : Bool} (ht : H t = none) (k : Th H v b) : Th (upd H t o) v b := k.up (Ex.new ht)
theorem ix_in {K : PySem.W.Frag} {H : Hp} {p : Addr} {xs : List V} {d : Int} {Q : VK} (h : SqL K H p xs ∨ SqT K H p xs) (h0 : 0 ≤ d) (h1 : d < xs.length) (q : ∀ v, v ∈ xs → Q v H) : rIx K (.ref p) (.int d) H Q := by
  obtain ⟨v, hv, ha⟩ := atI_in h0 h1
  rcases h with h | h
  · exact .inl ⟨p, xs, d, v, rfl, rfl, h, ha, q v hv⟩
  · exact .inr (.inl ⟨p, xs, d, v, rfl, rfl, h, ha, q v hv⟩)
/-- a heap without one object -/
def Minus (H : Hp) (p : Addr) : Hp := fun a => if a = p then none else H a
theorem minus_at {H : Hp} {p a : Addr} {o : HO} (n : a ≠ p) (h : H a = some o) : Minus H p a = some o := by
  unfold Minus
  rw [if_neg n]
  exact h
theorem minus_ex {H H' : Hp} {p : Addr} (b : But p H H') : Ex (Minus H p) H' := fun a o h => by
  unfold Minus at h
  by_cases n : a = p
  · rw [if_pos n] at h; cases h
  · rw [if_neg n] at h; exact b a o n h
theorem minus_lo {H : Hp} {p : Addr} : Ex (Minus H p) H := minus_ex But.refl
theorem ne_fresh {H : Hp} {a p : Addr} {o : HO} (h : H a = none) (hp : H p = some o) : a ≠ p := (ne_of_none hp h).symm
theorem But.ex {p : Addr} {H H0 H' : Hp} (e : Ex H H0) (h : H p = none) (b : But p H0 H') : Ex H H' := fun a o ha => b a o (ne_of_none ha h) (e a o ha)
theorem But.up {p : Addr} {H H1 H2 : Hp} (b : But p H H1) (e : Ex H1 H2) : But p H H2 := fun a o n h => e a o (b a o n h)
theorem mem_cut {xs : List V} {lo hi : Option Int} {x : V} (h : x ∈ cutV xs lo hi) : x ∈ xs := by
  unfold cutV at h
  exact List.mem_of_mem_drop (List.mem_of_mem_take h)
theorem mem_set {xs : List V} {j : Nat} {x y : V} (h : x ∈ xs.set j y) : x ∈ xs ∨ x = y := List.mem_or_eq_of_mem_set h
theorem ixN_in {n : Nat} {d : Int} (h0 : 0 ≤ d) (h1 : d < n) : ixN n d = some d.toNat := by
  unfold ixN
  rw [if_pos h0, if_pos h1]
/-- o[d] = v in bounds -/
theorem set_in {H : Hp} {p : Addr} {xs : List V} {d : Int} {v : V} {Q : Hp → Prop} (h : H p = some (.lst xs)) (h0 : 0 ≤ d) (h1 : d < xs.length) (q : Q (upd H p (.lst (xs.set d.toNat v)))) : rSetL (.ref p) (.int d) v H Q :=
  ⟨p, xs, d, d.toNat, rfl, rfl, h, ixN_in h0 h1, q⟩
theorem newEx {H H' : Hp} {t : Addr} {o : HO} (h : upd H t o = H') (n : H t = none) : Ex H H' := by rw [← h]; exact Ex.new n
theorem newAt {H H' : Hp} {t : Addr} {o : HO} (h : upd H t o = H') : H' t = some o := by rw [← h]; exact upd_same
theorem mutBut {H H' : Hp} {t : Addr} {o : HO} (h : upd H t o = H') : But t H H' := by rw [← h]; exact But.mut But.refl
theorem but_of {p : Addr} {H H' : Hp} (e : Ex H H') : But p H H' := fun x o _ h => e x o h
theorem law_fd {K : PySem.W.Frag} {mg : Str → Option Value} {x p : Str} {st : Stmt} {fa : Addr} (D : DefAt K mg x st) (b : Bnd x st [p]) (hfa : mg x = some (.ref fa)) : ∃ fd, Fun K x x st fa fd ∧ ∀ (s : Shared) (u : Value), BindsTo s fd ⟨[u], []⟩ [(p, u)] := by
  obtain ⟨f, fd, F, m⟩ := D.ex
  rw [m] at hfa
  cases hfa
  refine ⟨fd, F, ?_⟩
  obtain ⟨oc, od, kV, doc, pm, an, cdv, ct, osl, rfl, lk, hcd⟩ := F.ex
  exact fun s u => .of_eq (b kV doc pm an cdv ct [u] rfl)
/-- the law's promise -/
def spLaw (K : PySem.W.Frag) : Sp := fun vs H Q _ => ∃ (a : Addr) (ns : List Int), vs = [.ref a] ∧ SqL K H a (ns.map V.int) ∧ ns.length ≤ 63 ∧ ∀ H', Q (.bl true) H'
/-- a check of the law: whatever the pool gives, True -/
def spCheck : Sp := fun vs H Q _ => ∃ p, vs = [.ref p] ∧ Pool H p ∧ ∀ H', Ex H H' → Q (.bl true) H'
theorem all_true {ys : List V} (h : ∀ y ∈ ys, y = V.bl true) : ∃ bs : List Bool, ys = bs.map V.bl ∧ bs.all id = true := by
  refine ⟨List.replicate ys.length true, ?_, by simp⟩
  rw [List.map_replicate]
  exact List.eq_replicate_iff.mpr ⟨rfl, h⟩
theorem rep2 {H : Hp} {l : Addr} {xs : List V} {Q : VK} (h : H l = some (.lst xs)) (hl : xs.length ≤ 1000) (q : ∀ p, H p = none → Q (.ref p) (upd H p (.lst (xs ++ xs)))) : rRep (.ref l) (.int 2) H Q := by
  refine ⟨l, 2, xs, rfl, rfl, h, by decide, by decide, ?_, fun p n => ?_⟩
  · exact Nat.le_trans (by show xs.length * 2 ≤ 100000; omega) line_ge
  · have e : (List.replicate (2 : Int).toNat xs).flatten = xs ++ xs := by
      show xs ++ (xs ++ []) = _
      rw [List.append_nil]
    first
      | (rw [e]; exact q p n)
      | exact q p n
theorem const_mk {K : PySem.W.Frag} {h : Heap} {mg : Str → Option Value} {x : Str} {u : Value} {v : V} (X : K.In h) (G : h.Ns mainGlobals mg) (a : PySem.W.nsIn K mainGlobals x = some (some u)) (r : RelV v u) : ∃ u, mg x = some u ∧ RelV v u := ⟨u, PySem.W.mg_of X G a, r⟩
/-- a statement that is never reached -/
theorem ps_dead {X : Cx} {st : Stmt} : PS X st (fun _ _ _ => False) := ⟨fun _ _ _ _ _ _ h => h.elim⟩
theorem ixT_at {K : PySem.W.Frag} {H : Hp} {p : Addr} {xs : List V} {i : Int} {j : Nat} {v : V} {Q : VK} (h : SqT K H p xs) (e : i = (j : Int)) (hx : xs[j]? = some v) (q : Q v H) : rIx K (.ref p) (.int i) H Q :=
  .inr (.inl ⟨p, xs, i, v, rfl, rfl, h, by rw [e]; exact atI_nat hx, q⟩)
theorem ixL_at {K : PySem.W.Frag} {H : Hp} {p : Addr} {xs : List V} {i : Int} {j : Nat} {v : V} {Q : VK} (h : SqL K H p xs) (e : i = (j : Int)) (hx : xs[j]? = some v) (q : Q v H) : rIx K (.ref p) (.int i) H Q :=
  .inl ⟨p, xs, i, v, rfl, rfl, h, by rw [e]; exact atI_nat hx, q⟩
end Lw
/-! Tuples that know their object; dict(tuple of pairs); sorted(d.items()) of ints. -/
namespace Lw
open PySem PySem.Spec PyProof.Rows L2 Evl

/-- a tuple whose object has no dict of its own -/
def Tu (H : Hp) (p : Addr) (xs : List V) : Prop := ∃ o : Obj, o.dict = none ∧ H p = some (.frz o (.tup xs))
abbrev RowAt (H : Hp) (q : Addr) (p : Int × Int) : Prop := H q = some (.tup [.int p.1, .int p.2])
abbrev Rows (H : Hp) : List Addr → List (Int × Int) → Prop := Paired (RowAt H)
def kvI (ps : List (Int × Int)) : List (Key × V) := ps.map fun p => (.inl p.1, .int p.2)
theorem Tu.up {H H' : Hp} {p : Addr} {xs : List V} (e : Ex H H') (t : Tu H p xs) : Tu H' p xs := let ⟨o, a, b⟩ := t; ⟨o, a, e _ _ b⟩
theorem RowAt.up {H H' : Hp} {q : Addr} {p : Int × Int} (h : RowAt H q p) (e : Ex H H') : RowAt H' q p := e _ _ h
theorem Tu.sq {K : PySem.W.Frag} {H : Hp} {p : Addr} {xs : List V} (t : Tu H p xs) : SqT K H p xs := let ⟨o, _, b⟩ := t; .inl (.inr ⟨o, b⟩)
theorem Rows.up {H H' : Hp} (e : Ex H H') : ∀ {qs : List Addr} {ps : List (Int × Int)}, Rows H qs ps → Rows H' qs ps
  | _, _, .nil => .nil
  | _, _, .cons h t => .cons (e _ _ h) (Rows.up e t)
theorem u1 {a b : Nat} (h : a + 64 < b) : a + 1 < b := by omega
section
variable {X : Cx} {es : List Expr} {pos : Pos} {t : TA}
/-- tuple(xs), xs a list -/
theorem cr_tupF : CallR X (.type "tuple") (fun as H Q => ∃ p ys, as = [.ref p] ∧ SqL X.K H p ys ∧ ∀ l o, H l = none → o.dict = none → Q (.ref l) (upd H l (.frz o (.tup ys)))) := by
  intro pins s σ H as us Q I r hq
  obtain ⟨p, ys, rfl, hl, q⟩ := hq
  obtain rfl := Vals.ref1 r
  obtain ⟨its, rv, pl, hz⟩ := I.list hl
  refine call_tuple_list pl.isList (fun g kp => ?_) (by rw [List.size_toArray, ← rv.length]; exact hz)
  have J : Inv X pins σ H { s with heap := g } := I.kept (t' := s.toks) kp
  have hn := J.hok.fresh (Nat.le_refl _)
  refine ⟨.ref _, _, J.laid (t' := s.toks) (fun b o e => Heap.get?_push_of_some _ e) (Nat.le_refl _) (o := .frz { cls := .type "tuple", data := .seq its.toArray } (.tup ys)) ⟨Heap.get?_push_size _ rfl, hz, its, rv, IsTup.new _ _⟩, rfl, q _ _ hn rfl⟩
def tTupF (t : TA) : TE := fun σ H Q => t σ H fun xs H1 => xs.length ≤ sizeLine ∧ ∀ p o, H1 p = none → o.dict = none → Q (.ref p) (upd H1 p (.frz o (.tup xs)))
/-- (a, ..) -/
theorem pe_tupF {x1} (h : PA X es t) : PE X (.Tuple es x1 pos) (tTupF t) := by
  refine ⟨fun pins s σ H Q I hq => ?_⟩
  refine wpAny_Tuple_spliced (thn (h.run pos pins s σ H _ I hq) fun us s1 hh => ?_)
  obtain ⟨xs, H1, J, r, z, q⟩ := hh
  refine ⟨by rw [← r.length]; exact z, ?_⟩
  have hn := J.hok.fresh (Nat.le_refl _)
  refine ⟨.ref _, _, J.laid (t' := s1.toks) (fun b u e => Heap.get?_push_of_some _ e) (Nat.le_refl _) (o := .frz { cls := .type "tuple", data := .seq us.toArray } (.tup xs)) ⟨Heap.get?_push_size _ rfl, z, us, r, ⟨_, Heap.get?_push_size _ rfl, rfl, _, rfl⟩⟩, rfl, q _ _ hn rfl⟩
theorem rows_of {pins : List (Addr × Obj)} {σ : L2.St} {H : Hp} {s : Shared} (I : Inv X pins σ H s) : ∀ {qs : List Addr} {ps : List (Int × Int)}, Rows H qs ps →
    ∃ (vps : List (Value × Value)) (prs : List (Key × Value)), Paired (fun (q : Addr) (kv : Value × Value) => IsTup s.heap q #[kv.1, kv.2]) qs vps ∧ KV (kvI ps) prs ∧
      Paired (fun (pr : Key × Value) (kv : Value × Value) => keyIs pr.1 kv.1 = true ∧ pr.2 = kv.2) prs vps
  | _, _, .nil => ⟨[], [], .nil, .nil, .nil⟩
  | _, _, .cons (a := q) (b := p) h t => by
    obtain ⟨vps, prs, a, b, c⟩ := rows_of I t
    obtain ⟨its, rv, ht, _⟩ := I.tuple (SqT.of h)
    obtain ⟨u, y, rfl, ru, ry⟩ := vals2 rv
    obtain ⟨k, rfl⟩ := ru
    exact ⟨(.int p.1 k, y) :: vps, (.inl p.1, y) :: prs, .cons ht a, .cons ⟨rfl, ry⟩ b, .cons ⟨keyIs_int _ _, rfl⟩ c⟩
/-- dict(t), t a tuple of pairs of ints -/
theorem cr_dictT (hc : X.calm = true) : CallR X (.type "dict") (fun as H Q => ∃ a qs ps, as = [.ref a] ∧ Tu H a (qs.map V.ref) ∧ Rows H qs ps ∧ ∀ l, H l = none → Q (.ref l) (upd H l (.dK (mergeK [] (kvI ps))))) := by
  intro pins s σ H as us Q I r hq
  obtain ⟨a, qs, ps, rfl, ⟨o, hd, ho⟩, hr, q⟩ := hq
  obtain rfl := Vals.ref1 r
  obtain ⟨go, hz, its, rv, o', ho', hcl, n, hdat⟩ := I.hok a _ ho
  obtain rfl : o = o' := Option.some.inj (go.symm.trans ho')
  obtain rfl := refs_at rv
  rw [List.length_map] at hz
  obtain ⟨vps, prs, h1, h2, h3⟩ := rows_of I hr
  have l1 : qs.length = vps.length := Paired.length h1
  have l3 : prs.length = vps.length := Paired.length h3
  have key : ∀ j k v, vps[j]? = some (k, v) → ∃ b, qs[j]? = some b ∧ IsTup s.heap b #[k, v] := fun j k v e => by
    obtain ⟨b, hb, ht⟩ := L2.DX.pget h1 e
    exact ⟨b, hb, ht⟩
  refine PySem.call_dict_pairs (knd := mixKind X.prog X.w) (kvs := prs) (PairArg.tuple a (qs.map Value.ref).toArray (fun j => qs.getD j 0) vps) (I.ok.hd hc) ⟨⟨o, n, go, hcl, hd, hdat⟩, ?_, fun j k v e => ?_⟩ ⟨l3, fun i k v e => ?_⟩ (by omega) fun h' tk dd hk => ?_
  · rw [List.size_toArray, List.length_map]; exact l1
  · obtain ⟨b, hb, ht⟩ := key j k v e
    have eb : qs.getD j 0 = b := by rw [List.getD_eq_getElem?_getD, hb]; rfl
    refine ⟨?_, .inl ?_⟩
    · show (qs.map Value.ref).toArray[j]? = some (.ref (qs.getD j 0))
      rw [eb, List.getElem?_toArray, List.getElem?_map, hb]; rfl
    · show s.heap.IsTuple (qs.getD j 0) #[k, v]
      rw [eb]; exact ht
  · obtain ⟨⟨k', v'⟩, hp, hk, hv⟩ := L2.DX.pget h3 e
    exact ⟨k', by rw [hp, show v' = v from hv], hk⟩
  · have hm : (s.heap.objs.size == sysModules) = false := beq_eq_false_iff_ne.mpr (Nat.ne_of_gt I.big)
    have hlen : (mergeK [] (kvI ps)).length ≤ sizeLine := by
      refine Nat.le_trans (length_mergeK _ []) ?_
      rw [List.length_nil, Nat.zero_add, h2.length]
      omega
    exact ⟨.ref _, _, I.laid (t' := tk) (fun b u e => hk b u (fun z => nomatch z) e) (Nat.le_refl _) (o := .dK (mergeK [] (kvI ps))) ⟨hlen, hm, merged [] prs, KV.merge h2 .nil, dd⟩, rfl, q _ (I.hok.fresh (Nat.le_refl _))⟩
/-- the same context, one call deeper -/
theorem inA {pins : List (Addr × Obj)} {σ : L2.St} {H : Hp} {s : Shared} (I : Inv X pins σ H s) : Inv { X with A := X.A.in1 } pins σ H s := by
  obtain ⟨⟨a1, a2, a3, a4, a5, a6, a7, a8, a9, b1, b2, b3, b4, b5, b6, b7, b8, b9⟩, c1, c2, c3, c4, c5, c6, c7, c8, c9, d1⟩ := I
  exact ⟨⟨a1, a2, a3, a4, a5, a6, a7, a8, fun c => by show X.A.in1.handled = none; simpa using a9 c, b1, b2, b3, b4, b5, b6, b7, b8, b9⟩, c1, c2, c3, c4, c5, c6, c7, c8, c9, d1⟩
theorem outA {pins : List (Addr × Obj)} {σ : L2.St} {H : Hp} {s : Shared} (ok : X.Ok) (I : Inv { X with A := X.A.in1 } pins σ H s) : Inv X pins σ H s := by
  obtain ⟨_, c1, c2, c3, c4, c5, c6, c7, c8, c9, d1⟩ := I
  exact ⟨ok, c1, c2, c3, c4, c5, c6, c7, c8, c9, d1⟩
/-- d.items() -/
theorem mt_itemsK : MtR X "dict.items" (fun x as H Q => ∃ a kvs, x = .ref a ∧ as = [] ∧ H a = some (.dK kvs) ∧ ∀ p, H p = none → Q (.ref p) (upd H p (L2.DX.itemsO p a))) := by
  intro pins s σ H x as v us Q I rx rs hq
  obtain ⟨a, kvs, rfl, rfl, ha, q⟩ := hq
  cases rx
  cases rs
  obtain ⟨_, hd, vs, rel, o, es, ep, ho, hx, hdat, _⟩ := dk_of I.hok ha
  refine DT.callItems (es := es) (ep := ep) hd ⟨o, ho, hx, hdat⟩ ?_
  exact ⟨.ref _, _, I.laid (t' := s.toks) (fun b u e => Heap.get?_push_of_some _ e) (Nat.le_refl _) (L2.DX.itemsO_ok (Heap.get?_push_size _ rfl)), rfl, q _ (I.hok.fresh (Nat.le_refl _))⟩
theorem pairs_at {P : Program} {w : World} : ∀ {es : List DictEntry} {vs : List (Key × Value)} {kvs : List (Key × V)} {ps : List (Int × Int)} {j : Nat} {e : DictEntry}, Pairs (mixKind P w) es vs → KV kvs vs → kvs = kvI ps → es[j]? = some e →
    ∃ p t, ps[j]? = some p ∧ e.key = .int p.1 t ∧ RelV (.int p.2) e.val
  | _, _, _, _, j, e, .nil, _, _, h => by simp at h
  | _, _, _, [], _, _, .cons .., .cons .., hk, _ => by cases hk
  | _, _, _, p :: ps, 0, e, .cons h1 h2 t, .cons r1 r2, hk, h => by
    cases hk
    simp only [List.getElem?_cons_zero] at h
    cases h
    obtain ⟨r1, r3⟩ := r1
    rcases keyIs_shape (show keyIs _ _ = true from h1) with ⟨i, t, ek, ev⟩ | ⟨z, t, ek, ev⟩
    · rw [← r1] at ek
      cases ek
      exact ⟨p, t, rfl, ev, by rw [h2]; exact r3⟩
    · rw [← r1] at ek
      cases ek
  | _, _, _, p :: ps, j + 1, e, .cons h1 h2 t, .cons r1 r2, hk, h => by
    cases hk
    simp only [List.getElem?_cons_succ] at h
    obtain ⟨p', t', a, b, c⟩ := pairs_at t r2 rfl h
    exact ⟨p', t', by rw [List.getElem?_cons_succ]; exact a, b, c⟩
theorem rows_mk {H : Hp} : ∀ {as : List Addr} {ps : List (Int × Int)}, as.length = ps.length → (∀ (j : Nat) a, as[j]? = some a → ∃ p, ps[j]? = some p ∧ RowAt H a p) → Rows H as ps
  | [], [], _, _ => .nil
  | a :: as, p :: ps, hl, h => by
    refine .cons ?_ (rows_mk (by simpa using hl) fun j b e => ?_)
    · obtain ⟨p', e, r⟩ := h 0 a rfl
      cases e
      exact r
    · obtain ⟨p', e', r⟩ := h (j + 1) b e
      exact ⟨p', e', r⟩
  | [], _ :: _, hl, _ => by simp at hl
  | _ :: _, [], hl, _ => by simp at hl
def kOf (H : Hp) : V → Int × Int
  | .ref a => match H a with
    | some (.tup [.int x, .int y]) => (x, y)
    | _ => (0, 0)
  | _ => (0, 0)
theorem kOf_row {H : Hp} {a : Addr} {p : Int × Int} (h : RowAt H a p) : kOf H (.ref a) = p := by
  show (match H a with
    | some (.tup [.int x, .int y]) => (x, y)
    | _ => (0, 0)) = p
  rw [show H a = some (.tup [.int p.1, .int p.2]) from h]
def unref : V → Addr
  | .ref a => a
  | _ => 0
theorem rows_get {H : Hp} : ∀ {as : List Addr} {ps : List (Int × Int)}, Rows H as ps → ps = as.map fun a => kOf H (.ref a)
  | _, _, .nil => rfl
  | _, _, .cons h t => by rw [List.map_cons, kOf_row h, ← rows_get t]
theorem rows_mem {H : Hp} : ∀ {as : List Addr} {ps : List (Int × Int)}, Rows H as ps → ∀ a ∈ as, ∃ p, RowAt H a p
  | _, _, .cons h t, a, m => by
    rcases List.mem_cons.mp m with rfl | m
    · exact ⟨_, h⟩
    · exact rows_mem t a m
theorem rows_all {H : Hp} : ∀ {as : List Addr}, (∀ a ∈ as, ∃ p, RowAt H a p) → Rows H as (as.map fun a => kOf H (.ref a))
  | [], _ => .nil
  | a :: as, h => by
    obtain ⟨p, e⟩ := h a (by simp)
    exact .cons (by show RowAt H a (kOf H (.ref a)); rw [kOf_row e]; exact e) (rows_all fun b m => h b (List.mem_cons_of_mem _ m))
theorem rows_sub {H H' : Hp} : ∀ {as : List Addr} {ps : List (Int × Int)}, (∀ a ∈ as, ∀ o, H a = some o → H' a = some o) → Rows H as ps → Rows H' as ps
  | _, _, _, .nil => .nil
  | _, _, k, .cons h t => .cons (k _ (by simp) _ h) (rows_sub (fun a m => k a (List.mem_cons_of_mem _ m)) t)
theorem vals_refs : ∀ as : List Addr, Vals (as.map V.ref) (as.map Value.ref)
  | [] => .nil
  | _ :: as => .cons rfl (vals_refs as)
theorem rise_inj {as : List Nat} (h : as.Pairwise (· < ·)) {i j : Nat} {a : Nat} (hi : as[i]? = some a) (hj : as[j]? = some a) : i = j := by
  obtain ⟨li, ei⟩ := List.getElem?_eq_some_iff.mp hi
  obtain ⟨lj, ej⟩ := List.getElem?_eq_some_iff.mp hj
  have g := List.pairwise_iff_getElem.mp h
  by_cases c : i < j
  · have := g i j li lj c
    omega
  · by_cases c' : j < i
    · have := g j i lj li c'
      omega
    · omega
/-- a list of refs rearranged -/
theorem refs_perm {zs : List V} {as : List Addr} (h : zs.Perm (as.map V.ref)) : zs = (zs.map unref).map V.ref ∧ (zs.map unref).Perm as := by
  constructor
  · rw [List.map_map]
    refine (List.map_id zs).symm.trans (List.map_congr_left fun z hz => ?_)
    obtain ⟨a, _, rfl⟩ := List.mem_map.mp (h.mem_iff.mp hz)
    rfl
  · have e := h.map unref
    rw [List.map_map] at e
    exact e.trans (List.Perm.of_eq (List.map_id _))
/-- sorted(d.items()), keys and values ints -/
theorem cr_itemsS (hc : X.calm = true) : CallR X (.builtin "sorted") (fun as H Q => ∃ (v a : Addr) (ps : List (Int × Int)), as = [.ref v] ∧ H v = some (L2.DX.itemsO v a) ∧ H a = some (.dK (kvI ps)) ∧
    ∀ H' l (qs : List Addr) (rs : List (Int × Int)), Ex H H' → H' l = some (.lst (qs.map V.ref)) → Rows H' qs rs → rs.Perm ps → rs.Pairwise (fun p q => SrtO.lexB q p = false) → Q (.ref l) H') := by
  intro pins s σ H as us Q I r hq
  obtain ⟨v, a, ps, rfl, hv, ha, q⟩ := hq
  obtain rfl := Vals.ref1 r
  have view : s.heap.IsItemsView v a := (I.hok v _ hv).1
  obtain ⟨hz, hd, vs, rel, o, es, ep, ho, hx, hdat, hks, hps, hnd⟩ := dk_of I.hok ha
  have hn := hps.length
  rw [Array.length_toList] at hn
  have l1 : ps.length = vs.length := by rw [← rel.length]; exact (List.length_map _).symm
  have z1 : ps.length ≤ sizeLine := by rw [l1, ← rel.length]; exact hz
  refine DT.sortedI (es := es) (ep := ep) (I.ok.hd hc) view ⟨o, ho, hx, hdat⟩ (by omega) fun h' tk as hk hlt hl hG => ?_
  have lak : as.length = ps.length := by omega
  have nd : as.Nodup := hG.rise.imp fun h => Nat.ne_of_lt h
  have obj : ∀ (j : Nat) (b : Addr), as[j]? = some b → ∃ p k t, ps[j]? = some p ∧ RelV (.int p.2) t ∧ h'.get? b = some { cls := .type "tuple", data := .seq #[.int p.1 k, t] } := fun j b e => by
    obtain ⟨en, he, hg⟩ := hG.pairs j b e
    obtain ⟨p, k, ep, ek, ev⟩ := pairs_at hps rel rfl (by rw [← he]; exact Array.getElem?_toList)
    exact ⟨p, k, en.val, ep, ev, by rw [hg, ek]⟩
  have hob : (h'.push { cls := .type "list", data := .seq (as.map Value.ref).toArray }).get? h'.objs.size = some { cls := .type "list", data := .seq (as.map Value.ref).toArray } := Heap.get?_push_size _ rfl
  have old : ∀ b u, h'.get? b = some u → (h'.push { cls := .type "list", data := .seq (as.map Value.ref).toArray }).get? b = some u := fun b u e => Heap.get?_push_of_some _ e
  generalize hL : h'.objs.size = L at *
  generalize h'.push { cls := .type "list", data := .seq (as.map Value.ref).toArray } = g at *
  have J : Inv X pins σ (upd H L (.lst (as.map V.ref))) { s with heap := g, toks := tk } :=
    I.laid (t' := tk) (fun b u e => old b u (hk b u e)) (Nat.le_of_lt hlt) ⟨by rw [List.length_map, lak]; exact z1, as.map Value.ref, 0, vals_refs as, hob⟩
  have ltL : ∀ b ∈ as, b ≠ L := fun b hb => Nat.ne_of_lt (by rw [← hL]; exact hG.there hb)
  obtain ⟨H2, J2, up, hT⟩ := L2.DX.takeT (P := fun b vs => ∃ (j : Nat) (p : Int × Int), as[j]? = some b ∧ ps[j]? = some p ∧ vs = [.int p.1, .int p.2]) I as _ J nd fun b hb => by
    obtain ⟨j, hj⟩ := List.mem_iff_getElem?.mp hb
    obtain ⟨p, k, t, hp, rt, hg⟩ := obj j b hj
    have lb := hG.above b hb
    refine ⟨Nat.le_of_lt lb, by rw [upd_ne (ltL b hb)]; exact I.hok.fresh (Nat.le_of_lt lb), [.int p.1, .int p.2], ⟨j, p, hj, hp, rfl⟩, fun H2 => ?_⟩
    exact ⟨by show 2 ≤ sizeLine; decide, [.int p.1 k, t], .cons ⟨k, rfl⟩ (.cons rt .nil), _, old _ _ hg, rfl, 0, rfl⟩
  have rw2 : Rows H2 as ps := rows_mk lak fun j b e => by
    obtain ⟨vs', ⟨j', p, e1, e2, e3⟩, e4⟩ := hT b (List.mem_of_getElem? e)
    obtain rfl := rise_inj hG.rise e e1
    exact ⟨p, e2, by rw [e3] at e4; exact e4⟩
  have hs := mt_sortPO (X := { X with A := X.A.in1 }) pins _ σ H2 (.ref L) [] (.ref L) [] (fun _ H3 => ∃ zs, SrtO.Srtd (ltP (kOf H2)) zs ∧ SrtO.Stb (ltP (kOf H2)) zs (as.map V.ref) ∧ H3 = upd H2 L (.lst zs)) (inA J2) rfl .nil
    ⟨L, as.map V.ref, kOf H2, rfl, rfl, up _ _ upd_same, fun y hy => by
      obtain ⟨b, hb, rfl⟩ := List.mem_map.mp hy
      obtain ⟨p, hp⟩ := rows_mem rw2 b hb
      exact ⟨b, rfl, by rw [kOf_row hp]; exact hp⟩, fun zs h1 h2 => ⟨zs, h1, h2, rfl⟩⟩
  refine wpAny_mono hs (fun _ s' x => ?_) fun _ _ e => e
  obtain ⟨_, _, J3, _, zs, h1, h2, rfl⟩ := x
  obtain ⟨e1, e2⟩ := refs_perm h2.perm
  have sub : ∀ b ∈ zs.map unref, b ∈ as := fun b hb => e2.mem_iff.mp hb
  refine ⟨.ref L, _, outA I.ok J3, rfl, q _ L (zs.map unref) ((zs.map unref).map fun a => kOf H2 (.ref a)) ?_ (by rw [upd_same, ← e1]) ?_ ?_ ?_⟩
  · intro b u e
    have hb : b ≠ L := ne_of_none e (I.hok.fresh (Nat.le_of_lt hlt))
    rw [upd_ne hb]
    exact up b u (by rw [upd_ne hb]; exact e)
  · exact rows_sub (fun b hb u e => by rw [upd_ne (ltL b (sub b hb))]; exact e) (rows_all fun b hb => rows_mem rw2 b (sub b hb))
  · rw [rows_get rw2]
    exact e2.map _
  · rw [e1] at h1
    exact List.pairwise_map.mpr (List.pairwise_map.mp h1)
end
theorem Rows.len {H : Hp} {qs : List Addr} {ps : List (Int × Int)} (r : Rows H qs ps) : qs.length = ps.length := Paired.length r
theorem rows_at {H : Hp} : ∀ {qs : List Addr} {ps : List (Int × Int)} {i : Nat} {p : Int × Int}, Rows H qs ps → ps[i]? = some p → ∃ q, qs[i]? = some q ∧ RowAt H q p
  | _, _, i, p, r, h => L2.DX.pget r h
theorem rows_at' {H : Hp} {qs : List Addr} {ps : List (Int × Int)} {i : Nat} {v : V} (r : Rows H qs ps) (h : (qs.map V.ref)[i]? = some v) : ∃ q p, v = .ref q ∧ qs[i]? = some q ∧ ps[i]? = some p ∧ RowAt H q p := by
  rw [List.getElem?_map] at h
  cases e : qs[i]? with
  | none => rw [e] at h; cases h
  | some q =>
    rw [e] at h
    obtain rfl : V.ref q = v := Option.some.inj h
    have li := (List.getElem?_eq_some_iff.mp e).1
    rw [r.len] at li
    obtain ⟨q', e', ra⟩ := rows_at r (List.getElem?_eq_getElem li)
    rw [e] at e'
    cases e'
    exact ⟨q, _, rfl, rfl, List.getElem?_eq_getElem li, ra⟩
end Lw
/-! sorted(d) of a dict keyed by pairs of ints. -/
namespace Lw
open PySem PySem.Spec PyProof.Rows L2 Evl
def keyP (p : Int × Int) : List Key := [.inl p.1, .inl p.2]
section
variable {X : Cx}
theorem cr_sortedDP (hc : X.calm = true) : CallR X (.builtin "sorted") (fun as H Q => ∃ (d : Addr) (kvs : List (List Key × V)) (ps : List (Int × Int)), Rd H d (.dT kvs) ∧ as = [.ref d] ∧ kvs.map (·.1) = ps.map keyP ∧
    ∀ H' l (qs : List Addr) (rs : List (Int × Int)), Ex H H' → H' l = some (.lst (qs.map V.ref)) → Rows H' qs rs → rs.Perm ps → rs.Pairwise (fun p q => SrtO.lexB q p = false) → Q (.ref l) H') := by
  intro pins s σ H as us Q I r hq
  obtain ⟨d, kvs, ps, hd, rfl, hk, q⟩ := hq
  obtain rfl := Vals.ref1 r
  obtain ⟨z, hs, ks, pr, o, es, ep, ho, hx, hdt, he, hn⟩ := (show ObjOk X.prog X.w H s.heap d (.dT kvs) from hd.ok I.hok)
  have l1 : es.size = ks.length := size_of_entries he
  have l2 : kvs.length = ks.length := Paired.length pr
  have l3 : kvs.length = ps.length := by
    have e := congrArg List.length hk
    rwa [List.length_map, List.length_map] at e
  have rows : Rows H (ks.map fun x => x.2.1) ps := rows_mk (by rw [List.length_map]; omega) fun j a e => by
    rw [List.getElem?_map] at e
    cases hj : ks[j]? with
    | none => rw [hj] at e; cases e
    | some x =>
      rw [hj] at e
      obtain rfl : x.2.1 = a := Option.some.inj e
      obtain ⟨y, hy, e1, e2, _⟩ := L2.DX.pget pr hj
      have e3 : (kvs.map (·.1))[j]? = some y.1 := by rw [List.getElem?_map, hy]; rfl
      rw [hk, List.getElem?_map] at e3
      cases hp : ps[j]? with
      | none => rw [hp] at e3; cases e3
      | some p =>
        rw [hp] at e3
        have e4 : keyP p = y.1 := Option.some.inj e3
        refine ⟨p, rfl, ?_⟩
        rw [← e4] at e2
        exact e2
  refine Calls.call_function_entry kind_sorted plain_sorted entry_sorted (args_sorted1 _) ?_
  unfold Builtin.«sorted»
  refine wpAny_bind (m := checkCount "sorted" 1 1 _) (wpAny_pure ?_)
  refine wpAny_bind (PySem.W.kdu_collect (A := X.A.in1) (kdl_raw hs hx hdt) (I.ok.hd hc) ho (by omega) fun h' tk acc kp it => ?_)
  have la : acc.toList.length = ks.length := by rw [Array.length_toList, it.1]; exact l1
  have ea : acc.toList = (ks.map fun x => x.2.1).map Value.ref := by
    refine List.ext_getElem? fun j => ?_
    rw [List.getElem?_map, List.getElem?_map]
    by_cases c : j < ks.length
    · have gj : acc.toList[j]? = some acc.toList[j] := List.getElem?_eq_getElem (by omega)
      obtain ⟨en, hen, hv⟩ := it.2 j _ (by rw [← Array.getElem?_toList]; exact gj)
      have qe := entry_at he j
      rw [hen, List.getElem?_eq_getElem c] at qe
      rw [gj, hv, Option.some.inj qe, List.getElem?_eq_getElem c]
      rfl
    · rw [List.getElem?_eq_none (by omega), List.getElem?_eq_none (by omega)]
      rfl
  rw [ea]
  generalize hbs : (ks.map fun x => x.2.1) = bs at *
  have lb : bs.length = ps.length := Paired.length rows
  refine wpAny_bind (wpAny_newList ?_ (by rw [List.length_map]; omega))
  have hob : (h'.push { cls := .type "list", data := .seq (bs.map Value.ref).toArray }).get? h'.objs.size = some { cls := .type "list", data := .seq (bs.map Value.ref).toArray } := Heap.get?_push_size _ rfl
  have old : ∀ b u, h'.get? b = some u → (h'.push { cls := .type "list", data := .seq (bs.map Value.ref).toArray }).get? b = some u := fun b u e => Heap.get?_push_of_some _ e
  have J0 : Inv X pins σ H { s with heap := h', toks := tk } := I.kept (t' := tk) kp
  have J : Inv X pins σ (upd H h'.objs.size (.lst (bs.map V.ref))) { s with heap := h'.push { cls := .type "list", data := .seq (bs.map Value.ref).toArray }, toks := tk } :=
    J0.laid (t' := tk) old (Nat.le_refl _) ⟨by rw [List.length_map]; omega, bs.map Value.ref, 0, Lw.vals_refs bs, hob⟩
  have hL : H h'.objs.size = none := J0.hok.fresh (Nat.le_refl _)
  have rows2 : Rows (upd H h'.objs.size (.lst (bs.map V.ref))) bs ps := rows.up (Ex.new hL)
  generalize h'.objs.size = L at *
  generalize h'.push { cls := .type "list", data := .seq (bs.map Value.ref).toArray } = g at *
  have ltL : ∀ b ∈ bs, b ≠ L := fun b hb => by
    obtain ⟨p, e⟩ := rows_mem rows b hb
    exact ne_of_none e hL
  have hs := mt_sortPO (X := { X with A := X.A.in1 }) pins _ σ _ (.ref L) [] (.ref L) [] (fun _ H3 => ∃ zs, SrtO.Srtd (ltP (kOf H)) zs ∧ SrtO.Stb (ltP (kOf H)) zs (bs.map V.ref) ∧ H3 = upd (upd H L (.lst (bs.map V.ref))) L (.lst zs)) (inA J) rfl .nil
    ⟨L, bs.map V.ref, kOf H, rfl, rfl, upd_same, fun y hy => by
      obtain ⟨b, hb, rfl⟩ := List.mem_map.mp hy
      obtain ⟨p, hp⟩ := rows_mem rows b hb
      exact ⟨b, rfl, by rw [kOf_row hp, upd_ne (ltL b hb)]; exact hp⟩, fun zs h1 h2 => ⟨zs, h1, h2, rfl⟩⟩
  refine wpAny_bind (wpAny_holding (wpAny_mono hs (fun _ s' x => ?_) fun _ _ e => e))
  obtain ⟨_, _, J3, _, zs, h1, h2, rfl⟩ := x
  obtain ⟨e1, e2⟩ := refs_perm h2.perm
  have sub : ∀ b ∈ zs.map unref, b ∈ bs := fun b hb => e2.mem_iff.mp hb
  rw [upd_upd] at J3
  refine wpAny_pure ⟨_, rfl, .ref L, _, outA I.ok J3, rfl, q _ L (zs.map unref) ((zs.map unref).map fun a => kOf H (.ref a)) (Ex.new hL) (by rw [upd_same, ← e1]) ?_ ?_ ?_⟩
  · exact rows_sub (fun b hb u e => by rw [upd_ne (ltL b (sub b hb))]; exact e) (rows_all fun b hb => rows_mem rows b (sub b hb))
  · rw [rows_get rows]
    exact e2.map _
  · rw [e1] at h1
    exact List.pairwise_map.mpr (List.pairwise_map.mp h1)
end
abbrev Box := Int × Int × Int × Int
abbrev BoxAt (H : Hp) (q : Addr) (b : Box) : Prop := H q = some (.tup [.int b.1, .int b.2.1, .int b.2.2.1, .int b.2.2.2])
abbrev Boxes (H : Hp) : List Addr → List Box → Prop := Paired (BoxAt H)
/-- the point is one of the rectangle's -/
def InBox (b : Box) (p : Int × Int) : Prop := b.1 ≤ p.1 ∧ p.1 < b.1 + b.2.2.1 ∧ b.2.1 ≤ p.2 ∧ p.2 < b.2.1 + b.2.2.2
def Small (b : Box) : Prop := 0 ≤ b.2.2.1 ∧ b.2.2.1 ≤ 7 ∧ 0 ≤ b.2.2.2 ∧ b.2.2.2 ≤ 7
theorem Boxes.up {H H' : Hp} (e : Ex H H') : ∀ {qs : List Addr} {bs : List Box}, Boxes H qs bs → Boxes H' qs bs
  | _, _, .nil => .nil
  | _, _, .cons h t => .cons (e _ _ h) (Boxes.up e t)
theorem boxes_at {H : Hp} {qs : List Addr} {bs : List Box} {i : Nat} {v : V} (r : Boxes H qs bs) (h : (qs.map V.ref)[i]? = some v) : ∃ q b, v = .ref q ∧ bs[i]? = some b ∧ BoxAt H q b := by
  rw [List.getElem?_map] at h
  cases e : qs[i]? with
  | none => rw [e] at h; cases h
  | some q =>
    rw [e] at h
    have li := (List.getElem?_eq_some_iff.mp e).1
    rw [Paired.length r] at li
    obtain ⟨q', e', ra⟩ := L2.DX.pget r (List.getElem?_eq_getElem li)
    rw [e] at e'
    cases e'
    exact ⟨q, _, (Option.some.inj h).symm, List.getElem?_eq_getElem li, ra⟩
theorem keyP_inj {p q : Int × Int} (h : keyP p = keyP q) : p = q := by
  unfold keyP at h
  injection h with h1 h2
  injection h2 with h2 _
  exact Prod.ext (Sum.inl.inj h1) (Sum.inl.inj h2)
/-- a point stored -/
theorem put_pt {kvs : List (List Key × V)} {ps : List (Int × Int)} {p : Int × Int} {v : V} (hk : kvs.map (·.1) = ps.map keyP) (nd : ps.Nodup) :
    ∃ ps' : List (Int × Int), (putK kvs (keyP p) v).map (·.1) = ps'.map keyP ∧ ps'.Nodup ∧ (∀ q, q ∈ ps' ↔ q ∈ ps ∨ q = p) ∧ ps'.length ≤ ps.length + 1 := by
  unfold putK
  by_cases c : p ∈ ps
  · have any : (kvs.any fun kv => decide (kv.1 = keyP p)) = true := by
      rw [List.any_eq_true]
      have m : keyP p ∈ kvs.map (·.1) := by rw [hk]; exact List.mem_map.mpr ⟨p, c, rfl⟩
      obtain ⟨kv, h1, h2⟩ := List.mem_map.mp m
      exact ⟨kv, h1, decide_eq_true h2⟩
    rw [if_pos any]
    refine ⟨ps, ?_, nd, fun q => ⟨.inl, fun h => h.elim id fun e => e ▸ c⟩, by omega⟩
    rw [← hk, List.map_map]
    refine List.map_congr_left fun kv _ => ?_
    show (if kv.1 = keyP p then (kv.1, v) else kv).1 = kv.1
    split <;> rfl
  · have any : (kvs.any fun kv => decide (kv.1 = keyP p)) = false := by
      rw [List.any_eq_false]
      intro kv m z
      have m2 : kv.1 ∈ kvs.map (·.1) := List.mem_map.mpr ⟨kv, m, rfl⟩
      rw [hk] at m2
      obtain ⟨q, h1, h2⟩ := List.mem_map.mp m2
      rw [of_decide_eq_true z] at h2
      exact c (keyP_inj h2 ▸ h1)
    rw [any, if_neg Bool.false_ne_true]
    refine ⟨ps ++ [p], by rw [List.map_append, hk, List.map_append]; rfl, ?_, fun q => by simp, by simp⟩
    refine List.nodup_append.mpr ⟨nd, by simp, fun x hx y hy => ?_⟩
    obtain rfl : y = p := by simpa using hy
    exact fun z => c (z ▸ hx)
/-- before, by the first number, then by the second -/
def Lex (p q : Int × Int) : Prop := p.1 < q.1 ∨ p.1 = q.1 ∧ p.2 < q.2
theorem lex_of {rs : List (Int × Int)} (h : rs.Pairwise fun p q => SrtO.lexB q p = false) (nd : rs.Nodup) : rs.Pairwise Lex := by
  refine (h.and nd).imp fun {p q} ⟨a, b⟩ => ?_
  have c := SrtO.lexB_no.mp a
  by_cases e : p.1 = q.1
  · refine .inr ⟨e, ?_⟩
    have : p.2 ≠ q.2 := fun z => b (Prod.ext e z)
    omega
  · exact .inl (by omega)
/-- the points of a rectangle, row by row -/
theorem box_spots {l t w h : Int} {p : Int × Int} (hw : 0 ≤ w) (hh : 0 ≤ h) : InBox (l, t, w, h) p ↔ ∃ s : Nat, s < (w * h).toNat ∧ p = (l + (s : Int) % w, t + (s : Int) / w) := by
  constructor
  · rintro ⟨h1, h2, h3, h4⟩
    simp only at h1 h2 h3 h4
    refine ⟨((p.2 - t) * w + (p.1 - l)).toNat, ?_, ?_⟩
    · have a : (p.2 - t) * w ≤ (h - 1) * w := Int.mul_le_mul_of_nonneg_right (by omega) hw
      have b : (h - 1) * w = w * h - w := by rw [Int.sub_mul, Int.mul_comm h w, Int.one_mul]
      have c : 0 ≤ (p.2 - t) * w := Int.mul_nonneg (by omega) hw
      omega
    · have c : 0 ≤ (p.2 - t) * w := Int.mul_nonneg (by omega) hw
      have e : (((p.2 - t) * w + (p.1 - l)).toNat : Int) = (p.1 - l) + (p.2 - t) * w := by omega
      rw [e, Int.add_mul_emod_self_right, Int.add_mul_ediv_right _ _ (by omega), Int.emod_eq_of_lt (by omega) (by omega), Int.ediv_eq_zero_of_lt (by omega) (by omega)]
      exact Prod.ext (by show p.1 = l + (p.1 - l); omega) (by show p.2 = t + (0 + (p.2 - t)); omega)
  · rintro ⟨s, hs, rfl⟩
    have wp : 0 < w := by
      rcases Int.lt_or_eq_of_le hw with c | c
      · exact c
      · rw [← c, Int.zero_mul] at hs
        exact absurd hs (Nat.not_lt_zero _)
    have a := Int.emod_nonneg (s : Int) (Int.ne_of_gt wp)
    have b := Int.emod_lt_of_pos (s : Int) wp
    have c := Int.ediv_nonneg (Int.natCast_nonneg s) hw
    have d : (s : Int) / w < h := Int.ediv_lt_of_lt_mul wp (by rw [Int.mul_comm]; omega)
    exact ⟨by show l ≤ l + _; omega, by show l + _ < l + w; omega, by show t ≤ t + _; omega, by show t + _ < t + h; omega⟩
def GoodBox (b : Box) : Prop := (-1000000000000 ≤ b.1 ∧ b.1 ≤ 1000000000000) ∧ (-1000000000000 ≤ b.2.1 ∧ b.2.1 ≤ 1000000000000) ∧ (0 ≤ b.2.2.1 ∧ b.2.2.1 ≤ 1000000000000) ∧ 0 ≤ b.2.2.2 ∧ b.2.2.2 ≤ 1000000000000
theorem inB_ok {lo hi i : Int} (h : lo ≤ i ∧ i ≤ hi) : inB lo hi (.int i) = true := by
  show (decide (lo ≤ i) && decide (i ≤ hi)) = true
  rw [decide_eq_true h.1, decide_eq_true h.2]; rfl
theorem rectL_good {b : Box} (h : GoodBox b) : rectL [.int b.1, .int b.2.1, .int b.2.2.1, .int b.2.2.2] = true := by
  obtain ⟨h1, h2, h3, h4⟩ := h
  show (inB _ _ _ && inB _ _ _ && inB _ _ _ && inB _ _ _) = true
  rw [inB_ok h1, inB_ok h2, inB_ok h3, inB_ok h4]; rfl
/-- the rectangle of the points that both have -/
def ovl (a b : Box) : Option Box :=
  if min (a.1 + a.2.2.1) (b.1 + b.2.2.1) ≤ max a.1 b.1 ∨ min (a.2.1 + a.2.2.2) (b.2.1 + b.2.2.2) ≤ max a.2.1 b.2.1 then none
  else some (max a.1 b.1, max a.2.1 b.2.1, min (a.1 + a.2.2.1) (b.1 + b.2.2.1) - max a.1 b.1, min (a.2.1 + a.2.2.2) (b.2.1 + b.2.2.2) - max a.2.1 b.2.1)
def OvAt (H : Hp) (v : V) : Option Box → Prop
  | none => v = .non
  | some c => ∃ t, v = .ref t ∧ BoxAt H t c
theorem mx_eq {a b : Int} : (if b > a then b else a) = max a b := by split <;> omega
theorem mn_eq {a b : Int} : (if b < a then b else a) = min a b := by split <;> omega
/-- a drawn rectangle -/
def SmallBox (b : Box) : Prop := (-4 ≤ b.1 ∧ b.1 ≤ 4) ∧ (-4 ≤ b.2.1 ∧ b.2.1 ≤ 4) ∧ (0 ≤ b.2.2.1 ∧ b.2.2.1 ≤ 5) ∧ 0 ≤ b.2.2.2 ∧ b.2.2.2 ≤ 5
theorem SmallBox.small {b : Box} (h : SmallBox b) : Small b := ⟨h.2.2.1.1, by have := h.2.2.1.2; omega, h.2.2.2.1, by have := h.2.2.2.2; omega⟩
theorem SmallBox.good {b : Box} (h : SmallBox b) : GoodBox b := by
  obtain ⟨⟨a1, a2⟩, ⟨b1, b2⟩, ⟨c1, c2⟩, d1, d2⟩ := h
  exact ⟨⟨by omega, by omega⟩, ⟨by omega, by omega⟩, ⟨by omega, by omega⟩, by omega, by omega⟩
/-- a point as data -/
def datP (p : Int × Int) : PyData := .tuple [.int p.1, .int p.2]
theorem lay_pts (ps : List (Int × Int)) : PyData.canLayAll0 (ps.map datP) = true := by
  induction ps with
  | nil => rfl
  | cons p ps ih => simp [PyData.canLayAll0, PyData.canLay0, datP, ih]
theorem deep_pts (ps : List (Int × Int)) : PyData.depthAll (ps.map datP) ≤ 1 := by
  induction ps with
  | nil => decide
  | cons p ps ih =>
    rw [List.map_cons, PyData.depthAll]
    exact Nat.max_le.mpr ⟨by simp [PyData.depth, PyData.depthAll, datP], ih⟩
theorem shaped_pts (ps : List (Int × Int)) : SeqAt.shaped (.list (ps.map datP)) = true := by
  unfold SeqAt.shaped
  rw [PyData.canLay0, PyData.depth, lay_pts, decide_eq_true (by have := deep_pts ps; omega)]
  rfl
theorem shaped_pt (p : Int × Int) : SeqAt.shaped (datP p) = true := by
  simp [SeqAt.shaped, datP, PyData.canLay0, PyData.canLayAll0, PyData.depth, PyData.depthAll]
theorem eqv_pt {p q : Int × Int} : PyData.eqv (datP p) (datP q) = decide (p = q) := by
  by_cases e : p = q
  · subst e
    rw [SeqAt.eqv_refl _ (SeqAt.canLay_of_shaped (shaped_pt p)), decide_eq_true rfl]
  · rw [decide_eq_false e]
    have ne : ¬ (p.1 = q.1 ∧ p.2 = q.2) := fun z => e (Prod.ext z.1 z.2)
    simp [datP, PyData.eqv, PyData.eqvAll]
    intro z1 z2
    exact ne ⟨z1, z2⟩
theorem any_pt {p : Int × Int} {ps : List (Int × Int)} : ((ps.map datP).any fun z => PyData.eqv z (datP p)) = decide (p ∈ ps) := by
  induction ps with
  | nil => rfl
  | cons q ps ih =>
    rw [List.map_cons, List.any_cons, ih, eqv_pt]
    by_cases e : q = p
    · subst e; simp
    · have e' : ¬ p = q := fun z => e z.symm
      simp [e, e']
theorem dp_pts {K : PySem.W.Frag} {H : Hp} {qs : List Addr} {ps : List (Int × Int)} (r : Rows H qs ps) : DpAll K H (qs.map V.ref) (ps.map datP) := by
  induction r with
  | nil => exact .nil
  | cons h t ih => exact .cons (.tup (SqT.of h) (.cons (.int _) (.cons (.int _) .nil))) ih
/-- a point among points -/
theorem in_pts {K : PySem.W.Frag} {H : Hp} {a l : Addr} {p : Int × Int} {qs : List Addr} {ps : List (Int × Int)} {Q : VK} (hp : RowAt H a p) (hl : SqL K H l (qs.map V.ref)) (r : Rows H qs ps) (q : Q (.bl (decide (p ∈ ps))) H) : rInD K (.ref a) (.ref l) H Q :=
  ⟨datP p, ps.map datP, .tup (SqT.of hp) (.cons (.int _) (.cons (.int _) .nil)), .lst hl (dp_pts r), shaped_pt p, shaped_pts ps, by rw [any_pt]; exact q⟩
/-- points == [] -/
theorem eq_nil {K : PySem.W.Frag} {H : Hp} {a l : Addr} {qs : List Addr} {ps : List (Int × Int)} {Q : VK} (hl : SqL K H a (qs.map V.ref)) (r : Rows H qs ps) (h : H l = some (.lst [])) (q : Q (.bl (decide (ps = []))) H) : rEqD K (.ref a) (.ref l) H Q := by
  refine ⟨_, _, .lst hl (dp_pts r), .lst (SqL.of h) .nil, shaped_pts ps, by decide +kernel, ?_⟩
  have e : PyData.eqv (.list (ps.map datP)) (.list []) = decide (ps = []) := by
    cases ps with
    | nil => rfl
    | cons p ps => simp [PyData.eqv, PyData.eqvAll]
  rw [e]
  exact q
theorem u65 {k : Nat} {A : Around} (r : Room k A) : A.units + 65 < cLine := by have := r.un; omega
instance {b : Box} {p : Int × Int} : Decidable (InBox b p) := by unfold InBox; infer_instance
/-- the points that lie in b are kept -/
def SiftQ (b : Box) (fs : List (Int × Int)) : PeT := fun i o H => ∃ p, fs[i]? = some p ∧ ((InBox b p ∧ ∃ q, o = some (.ref q) ∧ RowAt H q p) ∨ (¬ InBox b p ∧ o = none))
theorem siftQ_mono (b : Box) (fs : List (Int × Int)) : Mono (SiftQ b fs) := fun i o H H' e ⟨p, h, r⟩ => ⟨p, h, r.imp (fun ⟨a, q, c, d⟩ => ⟨a, q, c, e _ _ (fun xs => by intro z; cases z) d⟩) id⟩
theorem siftQ_all {H : Hp} {b : Box} : ∀ {os : List (Option V)} {fs : List (Int × Int)}, os.length = fs.length → (∀ (i : Nat) o, os[i]? = some o → SiftQ b fs i o H) → ∃ qs : List Addr, os.filterMap id = qs.map V.ref ∧ Rows H qs (fs.filter fun p => decide (InBox b p))
  | [], [], _, _ => ⟨[], rfl, .nil⟩
  | o :: os, p :: fs, hl, h => by
    obtain ⟨qs, e2, t⟩ := siftQ_all (os := os) (fs := fs) (by simpa using hl) fun i z e => h (i + 1) z e
    obtain ⟨p', e, r⟩ := h 0 o rfl
    cases e
    rcases r with ⟨a, q, rfl, c⟩ | ⟨a, rfl⟩
    · exact ⟨q :: qs, by show V.ref q :: os.filterMap id = _; rw [e2]; rfl, by rw [List.filter_cons_of_pos (by simpa using a)]; exact .cons c t⟩
    · exact ⟨qs, by show os.filterMap id = _; exact e2, by rw [List.filter_cons_of_neg (by simpa using a)]; exact t⟩
  | [], _ :: _, hl, _ => by simp at hl
  | _ :: _, [], hl, _ => by simp at hl
/-- the points of both -/
theorem both_box {a b : Box} {p : Int × Int} : (InBox a p ∧ InBox b p) ↔ (max a.1 b.1 ≤ p.1 ∧ p.1 < min (a.1 + a.2.2.1) (b.1 + b.2.2.1)) ∧ max a.2.1 b.2.1 ≤ p.2 ∧ p.2 < min (a.2.1 + a.2.2.2) (b.2.1 + b.2.2.2) := by
  unfold InBox
  constructor
  · rintro ⟨⟨h1, h2, h3, h4⟩, h5, h6, h7, h8⟩
    exact ⟨⟨by omega, by omega⟩, by omega, by omega⟩
  · rintro ⟨⟨h1, h2⟩, h3, h4⟩
    exact ⟨⟨by omega, by omega, by omega, by omega⟩, by omega, by omega, by omega, by omega⟩
theorem ovl_none {a b : Box} {fs : List (Int × Int)} (m : ∀ p, p ∈ fs ↔ InBox a p ∧ InBox b p) (h : fs = []) : ovl a b = none := by
  refine if_pos (Decidable.byContradiction fun z => ?_)
  have c : (max a.1 b.1, max a.2.1 b.2.1) ∈ fs := (m _).mpr (both_box.mpr ⟨⟨Int.le_refl _, by omega⟩, Int.le_refl _, by omega⟩)
  rw [h] at c
  cases c
theorem ovl_some {a b : Box} {fs : List (Int × Int)} (m : ∀ p, p ∈ fs ↔ InBox a p ∧ InBox b p) (h : fs ≠ []) {x y u v : Int} (hx : x ∈ fs.map (·.1)) (lx : ∀ z ∈ fs.map (·.1), x ≤ z) (hy : y ∈ fs.map (·.2)) (ly : ∀ z ∈ fs.map (·.2), y ≤ z)
    (hu : u ∈ fs.map (·.1)) (gu : ∀ z ∈ fs.map (·.1), z ≤ u) (hv : v ∈ fs.map (·.2)) (gv : ∀ z ∈ fs.map (·.2), z ≤ v) : ovl a b = some (x, y, u - x + 1, v - y + 1) := by
  have ex : ∃ p, p ∈ fs := List.exists_mem_of_ne_nil fs h
  obtain ⟨p, hp⟩ := ex
  have bp := both_box.mp ((m p).mp hp)
  obtain ⟨px, hpx, rfl⟩ := List.mem_map.mp hx
  obtain ⟨py, hpy, rfl⟩ := List.mem_map.mp hy
  obtain ⟨pu, hpu, rfl⟩ := List.mem_map.mp hu
  obtain ⟨pv, hpv, rfl⟩ := List.mem_map.mp hv
  have bx := both_box.mp ((m px).mp hpx)
  have by' := both_box.mp ((m py).mp hpy)
  have bu := both_box.mp ((m pu).mp hpu)
  have bv := both_box.mp ((m pv).mp hpv)
  have c1 : (max a.1 b.1, max a.2.1 b.2.1) ∈ fs := (m _).mpr (both_box.mpr ⟨⟨Int.le_refl _, by omega⟩, Int.le_refl _, by omega⟩)
  have c2 : (min (a.1 + a.2.2.1) (b.1 + b.2.2.1) - 1, min (a.2.1 + a.2.2.2) (b.2.1 + b.2.2.2) - 1) ∈ fs := (m _).mpr (both_box.mpr ⟨⟨by show _ ≤ _ - 1; omega, by show _ - 1 < _; omega⟩, by show _ ≤ _ - 1; omega, by show _ - 1 < _; omega⟩)
  have d1 := lx _ (List.mem_map.mpr ⟨_, c1, rfl⟩)
  have d2 := ly _ (List.mem_map.mpr ⟨_, c1, rfl⟩)
  have d3 := gu _ (List.mem_map.mpr ⟨_, c2, rfl⟩)
  have d4 := gv _ (List.mem_map.mpr ⟨_, c2, rfl⟩)
  simp only at d1 d2 d3 d4
  unfold ovl
  rw [if_neg (by omega)]
  refine congrArg some ?_
  refine Prod.ext (by show max _ _ = px.1; omega) (Prod.ext (by show max _ _ = py.2; omega) (Prod.ext (by show min _ _ - _ = pu.1 - px.1 + 1; omega) (by show min _ _ - _ = pv.2 - py.2 + 1; omega)))
theorem ints_of_rows {f : Int × Int → Int} {fs : List (Int × Int)} {ys : List V} (hl : ys.length = fs.length) (h : ∀ (i : Nat) y, ys[i]? = some y → ∃ p, fs[i]? = some p ∧ y = .int (f p)) : ys = (fs.map f).map V.int := by
  refine List.ext_getElem? fun i => ?_
  rw [List.getElem?_map, List.getElem?_map]
  by_cases c : i < ys.length
  · obtain ⟨p, e1, e2⟩ := h i ys[i] (List.getElem?_eq_getElem c)
    rw [List.getElem?_eq_getElem c, e1, e2]
    rfl
  · rw [List.getElem?_eq_none (by omega), List.getElem?_eq_none (by omega)]
    rfl
theorem one_small {a : Box} (h : SmallBox a) : ∀ b ∈ [a], Small b := fun b m => by
  obtain rfl : b = a := by simpa using m
  exact h.small
end Lw
/-! Exceptions of one's own: Base.__init__(self, ..), Base an own class without an __init__. -/
namespace Lw
open PySem PySem.Spec PyProof.Rows L2 Evl
section
variable {X : Cx} {e : Expr} {es : List Expr} {ta : TA} {p1 p2 pos : Pos} {x : Str} {B : Addr}
/-- what the written part says of the base -/
structure BaseC (K : PySem.W.Frag) (B : Addr) : Prop where
  ga : PySem.W.specialIn K (.ref B) "__getattribute__" = some (some (.builtin "type.__getattribute__"))
  ty : PySem.W.typeIn K (.ref B) = some (.type "type")
  rd : PySem.W.readsIn K B (.type "type") = true
  fc : PySem.W.findCls K (.ref B) (.type "type") "__init__" = some (.val (.builtin "ValueError.__init__"))
theorem pe_binit {pl : Sem Bool} (hg : Gl X x) (hm : X.mg x = some (.ref B)) (b : BaseC X.K B) (ha : PA X (e :: es) ta) (hd : (x == ("__debug__" : Str)) = false := by decide)
    (hc : eval (.Call (.Attribute (.Name x p1) "__init__" p2) (e :: es) [] pos) X.env = (do
      let ov ← eval (.Name x p1) X.env
      standAt p2.atName
      let (f, first) ← holding [ov] (getMethod ov "__init__" pl)
      callWith pos f first (backTo pos (starEach (e :: es) X.env)) (backToKw pos (keywordEach [] X.env))) := by rfl)
    (hs : starEach (e :: es) X.env = (false, eval e X.env) :: starEach es X.env := by rfl) (hpl : (backTo pos (starEach es X.env)).any (·.1) = false := by rfl) :
    PE X (.Call (.Attribute (.Name x p1) "__init__" p2) (e :: es) [] pos) (tVeI X.K ta) := by
  refine ⟨fun pins s σ H Q I hq => ?_⟩
  refine PySem.W.methodCall_KW (ld_glob I hg hm ?_ hd) hc
  obtain ⟨m, fr⟩ := I.fr
  refine PySem.W.method_of_cls fr I.ok.mod.kin b.ga (PySem.W.cls_val fr I.ok.mod.kin b.ty b.rd b.fc (by decide +kernel) ?_)
  show wpAny _ _ (callWith pos (Value.builtin "ValueError.__init__") [] (backTo pos (starEach (e :: es) X.env)) []) _ _ _
  refine PyProof.Rows.callWith_method1 (thn (ha.run pos pins _ σ H _ (I.tok _) hq) fun us s1 hh => ?_) hs hpl
  obtain ⟨vs, H1, J, rv, a, C, ws, rfl, hl, T, ea, q⟩ := hh
  cases rv with
  | cons r0 rt =>
    cases r0
    exact oinit_ok T J ea (by rw [← Paired.length rt]; exact Nat.le_trans hl (by decide)) fun s' J' => ⟨.non, H1, J', rfl, q⟩
end
section
variable {P : Program} {w : World} {K : PySem.W.Frag} {mg : Str → Option Value} {base : Heap} {k : Nat} {x : Str} {st : Stmt} {ps N : List Str} {sp : Sp}
/-- a def that may raise -/
theorem clX_of (D : DefAt K mg x st) (S : FnScope N ps (defScope st)) (len : ∀ vs H Q E, sp vs H Q E → vs.length = ps.length)
    (hbody : ∀ (f : Addr) (cdv : Value) (A : Around) (outer : List Env) (s : Shared) (H : Hp) (vs : List V) (Q : VK) (E : XK), Room k (A.deeper (envOfC x (defScope st) s.heap.objs.size f cdv)) → sp vs H Q E →
      ∃ t, PSs (cxOf (L2.CX P w) P w K mg base N x (defScope st) f cdv A outer s H E) (defBody st) t ∧ t { nx := fun _ H' => Q .non H', rt := Q } (start N vs) H) : Cl P w K mg base (L2.CX P w) (k + 1) x st ps sp := by
  obtain ⟨f, fd, F, m⟩ := D.ex
  exact ⟨f, fd, F, F.okX S len (hbody f), m⟩
end
/-- what an own exception's __init__ does: Base.__init__(self, ..), self.value = value -/
def spInit (C : Addr) : Sp := fun vs H Q _ => ∃ a v, H a = some (exo a C none) ∧ vs = [.ref a, v] ∧ ∀ d, H d = none → d ≠ a → Q .non (upd (upd H d (exd d [("value", v)])) a (exo a C (some d)))
/-- an own exception class of the text: its __init__ keeps spInit -/
structure ExcAt (P : Program) (w : World) (K : PySem.W.Frag) (mg : Str → Option Value) (base : Heap) (x : Str) (C : Addr) : Prop where
  nm : mg x = some (.ref C)
  oex : OexC K C
  ini : ∃ f fd, PySem.W.findIn K (.ref C) "__init__" = some (some (.ref f)) ∧ PySem.W.typeIn K (.ref f) = some (.type "function") ∧ FnOk P w K mg base CX0 1 f fd ["self", "value"] (spInit C) ∧ Binds K fd ["self", "value"] []
section
variable {X : Cx} {e : Expr} {te : TE} {x : Str} {C : Addr} {p pos : Pos} {W : WX}
/-- raise x(e) -/
theorem ps_raiseO {ta : TA} (hc : X.calm = true) (tk : Takes X W) (c : ExcAt X.prog X.w X.K X.mg X.base x C) (hr : Room 2 X.A) (hg : Gl X x) (ha : PA X [e] ta) (hd : (x == ("__debug__" : Str)) = false := by decide)
    (hs : starEach [e] X.env = (false, eval e X.env) :: starEach [] X.env := by rfl) (hpl : (backTo p (starEach [] X.env)).any (·.1) = false := by rfl) {q : Pos} :
    PS X (.Raise (some (.Call (.Name x q) [e] [] p)) none pos) (fun _ σ H => tMkO C (spInit C) [] ta σ H fun cls d H' => W cls d σ H') := by
  obtain ⟨f, fd, iC, tI, F1, hb⟩ := c.ini
  exact ps_raise (pos := pos) hc tk (pmk_oex (p := q) (pos := p) c.oex iC tI F1 hr hb .nil pass0 hg c.nm ha hd hs hpl)
end
/-- what a raise of such a class comes to -/
theorem mkO_in {C : Addr} {v : V} {H1 : Hp} {Q : XK} (q : ∀ d H2, Ex H1 H2 → H2 d = some (.xd [("value", v)]) → Q (.ref C) (some d) H2) :
    [v].length ≤ 1000 ∧ ∀ a, H1 a = none → spInit C (.ref a :: ([v] ++ [])) (upd H1 a (exo a C none))
      (fun v H2 => v = .non ∧ ∃ (d : Addr) (fs : List (Str × V)), H2 a = some (exo a C (some d)) ∧ H2 d = some (exd d fs) ∧ H1 d = none ∧ Q (.ref C) (some d) (upd (del H2 a) d (.xd fs))) (fun _ _ _ => False) := by
  refine ⟨by show 1 ≤ 1000; decide, fun a na => ?_⟩
  refine ⟨a, v, upd_same, rfl, fun d hd2 ne => ?_⟩
  have hd1 : H1 d = none := by rw [upd_ne ne] at hd2; exact hd2
  refine ⟨rfl, d, _, upd_same, by rw [upd_ne ne, upd_same], hd1, q d _ (fun b u hb => ?_) upd_same⟩
  have n1 : b ≠ d := ne_of_none hb hd1
  have n2 : b ≠ a := ne_of_none hb na
  rw [upd_ne n1]
  show (if b = a then none else _) = _
  rw [if_neg n2, upd_ne n2, upd_ne n1, upd_ne n2]
  exact hb
/-- what the text says of an own exception class that has its own __init__ -/
structure ClsAt (K : PySem.W.Frag) (mg : Str → Option Value) (x q : Str) (st : Stmt) : Prop where
  ex : ∃ (C B f : Addr) (fd : FuncData), mg x = some (.ref C) ∧ OexC K C ∧ PySem.W.findIn K (.ref C) "__init__" = some (some (.ref f)) ∧ PySem.W.typeIn K (.ref f) = some (.type "function") ∧
    Fun K "__init__" q st f fd ∧ PySem.W.findIn K (.ref C) "value" = some none ∧ mg "FormError" = some (.ref B) ∧ BaseC K B
theorem clsAt_mk {K : PySem.W.Frag} {mg : Str → Option Value} {x q : Str} {st : Stmt} {h : Heap} {C B f N : Addr} {nm qq : Str} {bs bm : List Value} {sn : List Str} {sub : List Value} {ab : Bool} {col : Option Bool} {dd : Option Addr} {k0 k1 k2 k3 k5 : Option Value}
    {oc : Value} {od an : Option Addr} {osl : Array (Option Value)} {kV doc pm cdv ct : Value} (X : K.In h) (G : h.Ns mainGlobals mg) (a : PySem.W.nsIn K mainGlobals x = some (some (.ref C)))
    (cl : K.lookup C = some (excClassObj nm qq C N bs bm true sn sub ab col dd k0 k1 k2 k3 k5 "ValueError.__new__")) (r : PySem.HandSPX.refsVE bm = true)
    (sa : PySem.W.findIn K (.ref C) "__setattr__" = some (some (.builtin "object.__setattr__"))) (exC : PySem.W.subIn K (.ref C) (.type "BaseException") = some true) (tyC : PySem.W.typeIn K (.ref C) = some (.type "type")) (kC : PySem.W.keepIn K (.ref C) = true)
    (i : PySem.W.findIn K (.ref C) "__init__" = some (some (.ref f))) (ti : PySem.W.typeIn K (.ref f) = some (.type "function"))
    (l : K.lookup f = some ⟨oc, od, .func (PySem.W.fnOf "__init__" q (defArgs st) (defBody st) (defScope st) .none kV doc pm an cdv ct), osl⟩) (c : PySem.W.codeIn K cdv q = true) (kp : PySem.W.keepIn K (.ref f) = true)
    (no : PySem.W.findIn K (.ref C) "value" = some none) (aB : PySem.W.nsIn K mainGlobals "FormError" = some (some (.ref B)))
    (ga : PySem.W.specialIn K (.ref B) "__getattribute__" = some (some (.builtin "type.__getattribute__"))) (ty : PySem.W.typeIn K (.ref B) = some (.type "type")) (rd : PySem.W.readsIn K B (.type "type") = true)
    (fc : PySem.W.findCls K (.ref B) (.type "type") "__init__" = some (.val (.builtin "ValueError.__init__"))) : ClsAt K mg x q st :=
  ⟨C, B, f, _, PySem.W.mg_of X G a, ⟨⟨_, _, _, _, _, _, _, _, _, _, _, _, _, _, _, cl, r⟩, sa, exC, tyC, kC⟩, i, ti, fun_mk l c kp, no, PySem.W.mg_of X G aB, ga, ty, rd, fc⟩
end Lw
/-! try: .. except (A, B, C) as e: .., where the suite keeps the exception in a name: behind the suite it is an object like others. -/
namespace Lw
open PySem PySem.Spec PyProof.Rows L2 Evl
/-- at a: an exception, its class and its dict are known -/
def exc (a : Addr) (cls : Value) (d : Option Addr) : HO := .ext fun g => ∃ (oe : Obj) (fv : Array Value), g.get? a = some oe ∧ Zc cls d oe ∧ oe.data = .fields fv
theorem exc_ok {P : Program} {w : World} {H : Hp} {g : Heap} {a : Addr} {cls : Value} {d : Option Addr} {oe : Obj} {fv : Array Value} (e : g.get? a = some oe) (z : Zc cls d oe) (f : oe.data = .fields fv) : ObjOk P w H g a (exc a cls d) :=
  ⟨⟨oe, fv, e, z, f⟩, ⟨oe, e⟩, fun _ _ ⟨o, v, q, r⟩ st => ⟨o, v, st o q, r⟩⟩
section
variable {X : Cx} {pins : List (Addr × Obj)} {σ : L2.St} {H : Hp} {s : Shared} {a : Addr} {cls : Value} {d : Option Addr} {oe : Obj} {fv : Array Value}
/-- an object that no one tracked, made behind the def's start -/
theorem inv_caught (I : Inv X pins σ H s) (hn : H a = none) (h0 : a ∈ X.ex ∨ X.s_0.heap.get? a = none) (hL : a ≠ X.env.locals) (hp : ∀ p ∈ X.pn ++ pins, p.1 ≠ a) (e : s.heap.get? a = some oe) (z : Zc cls d oe) (f : oe.data = .fields fv) :
    Inv X pins σ (upd H a (exc a cls d)) s := by
  have old : ∀ {b u}, H b = some u → upd H a (exc a cls d) b = some u := fun {b u} q => by rw [upd_ne (ne_of_none q hn)]; exact q
  have was : ∀ {b o}, X.s_0.heap.get? b = some o → b ∉ X.ex → b ≠ a := fun {b o} q hx zz => by
    rcases h0 with h0 | h0
    · exact hx (zz ▸ h0)
    · rw [zz, h0] at q; cases q
  refine ⟨I.ok, I.os, I.bare, ⟨I.base.keep, I.base.slot, fun b o q n hx => ?_, I.base.there, fun b xs q => old (I.base.tups b xs q), fun b o u q => old (I.base.frzs b o u q), fun b qs q => ?_⟩, I.loc, I.cell, ?_, fun x c q => ?_, fun p m => ?_, fun b u q => ?_, I.len⟩
  · rw [upd_ne (was q hx)]
    exact I.base.free b o q n hx
  · obtain ⟨more, m⟩ := I.base.tbls b qs q
    exact ⟨more, old m⟩
  · rw [upd_ne (Ne.symm hL)]
    exact I.free
  · have ne : c ≠ a := fun zz => by
      obtain ⟨v, ob, ho, hd⟩ := I.cell x c q
      rw [zz, e] at ho
      cases ho
      rw [f] at hd
      cases hd
    rw [upd_ne ne]
    exact I.freeC x c q
  · obtain ⟨p1, p2, p3⟩ := I.pin p m
    exact ⟨p1, by rw [upd_ne (hp p m)]; exact p2, p3⟩
  · by_cases hb : b = a
    · subst hb
      rw [upd_same] at q
      cases q
      exact exc_ok e z f
    · rw [upd_ne hb] at q
      exact (I.hok b u q).stay (fun _ _ _ r => r) (fun c r => old r) fun c xs r => old r
theorem sky_new {B : Heap} {l : List Env} {Z : Obj → Prop} {L : Addr} {h : Heap} (k : Sky B l a Z L h) : B.get? a = none := by
  rcases k with k | k | k
  · exact k.2.1
  · exact k.2.1
  · exact k.2.1
theorem flying_more {B : Heap} {l : List Env} {Z : Obj → Prop} {h g : Heap} (k : HandSPX.FlyingZ B l a Z h) (st : ∀ b o, h.get? b = some o → g.get? b = some o) : HandSPX.FlyingZ B l a Z g := by
  obtain ⟨k1, k2, k3, oe, vs, T, oT, ts, a1, a2, a3, a4, a5, a6, a7, a8⟩ := k
  exact ⟨fun b o q => st _ _ (k1 b o q), k2, Heap.FunFrames.of_keeps (fun b o q _ => ⟨o, st _ _ q, rfl⟩) k3, oe, vs, T, oT, ts, st _ _ a1, a2, a3, a4, a5, a6, st _ _ a7, a8⟩
/-- what is wished of an exception of the body: slot i is the clause's name; the suite runs through -/
def wKept (K : PySem.W.Frag) (N : Nat) (cs : List Value) (i : Nat) (ts : Addr → Value → Option Addr → TS) (D : Ends) : WX := fun cls d σ H =>
  PySem.W.exmAny K cls cs = some true ∧ ∀ a, H a = none → σ.length = N → ts a cls d { nx := fun σ' H' => H' a = none → D.nx (σ'.set i none) (upd H' a (exc a cls d)), rt := fun _ _ => False, bk := fun _ _ => False, ct := fun _ _ => False } (σ.set i (some (.ref a))) H
end
section
variable {X : Cx} {x1 x2 x3 n : Str} {c1 c2 c3 : Addr} {i : Nat} {body suite : List Stmt} {b₀ : Stmt} {q1 q2 q3 tp pos pos' : Pos} {tx} {tb : WX → TS} {ts : Addr → Value → Option Addr → TS}
set_option maxHeartbeats 4000000 in
theorem ps_try_kept (hst : X.stack = X.env :: X.outer) (hf : X.env.frame = some X.env.locals) (hN : X.N.Nodup) (hi : X.N[i]? = some n) (hln : X.env.kindOf n = some .local)
    (g1 : Gl X x1) (m1 : X.mg x1 = some (.ref c1)) (g2 : Gl X x2) (m2 : X.mg x2 = some (.ref c2)) (g3 : Gl X x3) (m3 : X.mg x3 = some (.ref c3))
    (hb : ∀ (W : WX) (pn : List (Addr × Obj)) (xe : Value → Shared → Prop), Takes (X.tr pn xe) W → PSs (X.tr pn xe) body (tb W))
    (hsu : ∀ (a : Addr) (oe : Obj) (cls : Value) (d : Option Addr) (pn : List (Addr × Obj)), PSs (X.suite a ((a, oe) :: pn)) (b₀ :: suite) (ts a cls d))
    (d1 : (x1 == ("__debug__" : Str)) = false := by decide) (d2 : (x2 == ("__debug__" : Str)) = false := by decide) (d3 : (x3 == ("__debug__" : Str)) = false := by decide) :
    PS X (.Try body [.ExceptHandler (some (.Tuple [.Name x1 q1, .Name x2 q2, .Name x3 q3] tx tp)) (some n) (b₀ :: suite) pos'] [] [] pos) (fun D σ H => tb (wKept X.K X.N.length [.ref c1, .ref c2, .ref c3] i ts D) D σ H) := by
  refine ⟨fun pins s σ H D I hq => ?_⟩
  have ok := I.ok
  have frm : X.A.frames = some (X.env :: X.outer) := by rw [ok.frames, hst]
  have lcl : Loc X.env.scope n := .inl hln
  refine wpAny_Try_except ?_
  refine wpAny_mono ((hb (wKept X.K X.N.length [.ref c1, .ref c2, .ref c3] i ts D) (X.pn ++ pins) (fun z s₁ => wpAny (model X.prog X.w) X.A (noteFrame z X.env) (fun _ s₂ => wpAny (model X.prog X.w) X.A (setFlight z none) (fun _ s₃ =>
    wpAny (model X.prog X.w) X.A (handleBy z X.env [.ExceptHandler (some (.Tuple [.Name x1 q1, .Name x2 q2, .Name x3 q3] tx tp)) (some n) (b₀ :: suite) pos']) (SP X pins D) X.xe s₃) X.xe s₂) X.xe s₁) (fun u s' xx => ?_)).run [] s σ H D (I.toTry _) hq) (fun fl s1 hsp => ?_) (fun z s1 hz => hz)
  · obtain ⟨a, B, sI, pins', σ', H', cls, d, rfl, J', nb, up, sky, na, os, ag, hm, hyes⟩ := xx
    have J : Inv X pins σ' H' sI := J'.ofTry ok
    have new0 := sky_new sky
    have sky' : Sky B (X.env :: X.outer) a (Zc cls d) X.env.locals s'.heap := by rw [← hst]; exact sky
    show wpAny (model X.prog X.w) X.A (noteFrame (.ref a) X.env) _ _ _
    refine Sky.land Zc.steady frm hf sky' fun h3 fl3 up3 => ?_
    have J3 : Inv X pins σ' H' { s' with heap := h3 } := J.landed nb fl3.1 (up.trans up3) os ag
    obtain ⟨oe3, vs3, he3, hz3, hd3⟩ := fl3.there
    have notF : ∀ {g : Heap} {o : Obj} {vs : Array Value}, g.FunFrames B (X.env :: X.outer) → g.get? a = some o → o.data = .fields vs → a ∉ frs (X.env :: X.outer) := fun {g o vs} ff e dd hmem => by
      obtain ⟨_, o', e', no⟩ := ff.mem hmem
      rw [e] at e'; cases e'
      exact no _ dd
    have nfr := notF fl3.2.2.1 he3 hd3
    have nL : a ≠ X.env.locals := fun zz => nfr (List.mem_filterMap.mpr ⟨X.env, List.mem_cons_self, by rw [hf, zz]⟩)
    have nF : a ∉ X.fs := fun hmem => by
      obtain ⟨en, he, q⟩ := List.mem_filterMap.mp hmem
      exact nfr (List.mem_filterMap.mpr ⟨en, List.mem_cons_of_mem _ he, q⟩)
    have newI : sI.heap.get? a = none := by
      cases hg : sI.heap.get? a with
      | none => rfl
      | some o =>
        have q := nb a o hg (by rw [hst]; exact nfr)
        rw [new0] at q
        cases q
    have new00 : a ∈ X.ex ∨ X.s_0.heap.get? a = none := by
      cases hg : X.s_0.heap.get? a with
      | none => exact .inr rfl
      | some o =>
        by_cases hx : a ∈ X.ex
        · exact .inl hx
        · obtain ⟨o', e'⟩ := J.base.there a o hg hx
          rw [newI] at e'
          cases e'
    have newp : ∀ p ∈ X.pn ++ pins, p.1 ≠ a := fun p m zz => by
      have := (J.pin p m).1
      rw [zz, newI] at this
      cases this
    have S3 := J3.suite he3 hd3 na nL nF
    refine wpAny_handleBy_cons (codeAny_handlers_test ?_) (by intro q; cases q)
    refine wpAny_Tuple_spliced ?_
    show wpAny _ _ (spliced [(false, eval (.Name x1 q1) X.env), (false, eval (.Name x2 q2) X.env), (false, eval (.Name x3 q3) X.env)]) _ _ _
    refine Calls.spliced_cons (ld_glob (X := X.suite a ((a, oe3) :: (X.pn ++ pins))) S3 g1 m1 ?_ d1)
    refine Calls.spliced_cons (ld_glob (X := X.suite a ((a, oe3) :: (X.pn ++ pins))) S3 g2 m2 ?_ d2)
    refine Calls.spliced_cons (ld_glob (X := X.suite a ((a, oe3) :: (X.pn ++ pins))) S3 g3 m3 ?_ d3)
    refine Calls.spliced_nil ⟨by show 3 ≤ sizeLine; decide, ?_⟩
    have kp : ∀ b o, h3.get? b = some o → (h3.push { cls := .type "tuple", data := .seq [Value.ref c1, .ref c2, .ref c3].toArray }).get? b = some o := fun b o q => Heap.get?_push_of_some _ q
    have htup : (h3.push { cls := .type "tuple", data := .seq [Value.ref c1, .ref c2, .ref c3].toArray }).get? h3.objs.size = some { cls := .type "tuple", data := .seq [Value.ref c1, .ref c2, .ref c3].toArray } := Heap.get?_push_size _ rfl
    show wpAny _ _ (excMatches (.ref a) (.ref h3.objs.size)) _ _ { s' with heap := h3.push { cls := .type "tuple", data := .seq [Value.ref c1, .ref c2, .ref c3].toArray } }
    generalize h3.push { cls := .type "tuple", data := .seq [Value.ref c1, .ref c2, .ref c3].toArray } = g3 at *
    have fl5 := flying_more fl3 kp
    have up5 : h3.UpToSlots g3 := fun b o q _ => ⟨o.slots, kp b o q⟩
    have LT : PySem.W.Looks (model X.prog X.w) g3 (typeOf (.ref a)) cls := fun A Q E st k q => wpAny_typeOf_ref (k _ _ (kp _ _ he3)) (by rw [hz3.1]; exact q)
    have LM := PySem.W.exm_tup3 (M := model X.prog X.w) (J3.kIn.keeps kp) LT htup hm
    refine LM.here ?_
    refine codeAny_handlers_suite_as ?_
    refine HandSPX.lands_againZ fl5 fun h4 fl4 up4 => ?_
    have J4 : Inv X pins σ' H' { s' with heap := h4 } := J.landed nb fl4.1 (((up.trans up3).trans up5).trans up4) os ag
    obtain ⟨oe4, vs4, he4, hz4, hd4⟩ := fl4.there
    have S4 := J4.suite he4 hd4 na nL nF
    refine store_ok (X := X.suite a ((a, oe4) :: (X.pn ++ pins))) (v := .ref a) S4 hN hi lcl rfl (fun s5 S5 => ?_) (.inr hln)
    refine wpAny_mono ((hsu a oe4 cls d (X.pn ++ pins)).run [] s5 _ H' _ S5 (hyes a na J.len)) (fun fl s6 hsp => ?_) (fun _ _ zz => False.elim zz)
    cases fl with
    | next =>
      obtain ⟨σ6, H6, S6, q6⟩ := hsp
      obtain ⟨p1, p2, p3⟩ := S6.pin (a, oe4) (List.mem_append_left _ List.mem_cons_self)
      have S7 := inv_caught (S6.unsuite ok) p2 new00 nL newp p1 hz4 hd4
      exact gone_ok S7 hN hi hln fun s7 J7 => ⟨_, _, J7, q6 p2⟩
    | brk =>
      obtain ⟨σ6, H6, S6, q6⟩ := hsp
      exact q6.elim
    | cont =>
      obtain ⟨σ6, H6, S6, q6⟩ := hsp
      exact q6.elim
    | ret u =>
      obtain ⟨v6, σ6, H6, S6, r6, q6⟩ := hsp
      exact q6.elim
  · cases fl with
    | next =>
      obtain ⟨σ', H', J', q⟩ := hsp
      exact wpAny_execs_nil ⟨σ', H', J'.ofTry ok, q⟩
    | brk =>
      obtain ⟨σ', H', J', q⟩ := hsp
      exact ⟨σ', H', J'.ofTry ok, q⟩
    | cont =>
      obtain ⟨σ', H', J', q⟩ := hsp
      exact ⟨σ', H', J'.ofTry ok, q⟩
    | ret u =>
      obtain ⟨v, σ', H', J', r, q⟩ := hsp
      exact ⟨v, σ', H', J'.ofTry ok, r, q⟩
end
/-- what a class of exceptions must say, so that its instances are asked and read rightly -/
structure ExcK (K : PySem.W.Frag) (C : Addr) : Prop where
  ga : PySem.W.findIn K (.ref C) "__getattribute__" = some (some (.builtin "BaseException.__getattribute__"))
  gt : PySem.W.findIn K (.ref C) "__getattr__" = some none
  sb : PySem.W.subIn K (.ref C) (.type "BaseException") = some true
  hd : PySem.W.hasDictIn K C = true
  ca : PySem.W.findIn K (.ref C) "__class__" = some (some (.builtin "object.__class__"))
  cg : PySem.W.specialIn K (.builtin "object.__class__") "__get__" = some (some (.builtin "getset_descriptor.__get__"))
  ct : PySem.W.takesIn K (.builtin "object.__class__") = some true
  mo : PySem.W.mroIn K C (.type "object") = some true
theorem exc_at {P : Program} {w : World} {H : Hp} {h : Heap} {a : Addr} {cls : Value} {d : Option Addr} (hok : HOk P w H h) (e : H a = some (exc a cls d)) : ∃ (oe : Obj) (fv : Array Value), h.get? a = some oe ∧ Zc cls d oe ∧ oe.data = .fields fv := by
  have x : ObjOk P w H h a (.ext fun g => ∃ (oe : Obj) (fv : Array Value), g.get? a = some oe ∧ Zc cls d oe ∧ oe.data = .fields fv) := hok a _ e
  exact x.1
/-- isinstance(e, c), e a caught exception of an own class -/
def rIsX (K : PySem.W.Frag) (D : Addr) : List V → Hp → VK → Prop := fun xs H Q => ∃ (a dd : Addr) (c : V) (cv : Value) (b : Bool) (fs : List (Str × V)), H a = some (exc a (.ref D) (some dd)) ∧ H dd = some (.xd fs) ∧ xs = [.ref a, c] ∧ (∀ u, RelV c u → u = cv) ∧ PySem.W.kitOne K (.ref D) cv = some b ∧ Q (.bl b) H
theorem call_isX {X : Cx} {D : Addr} (C : ExcK X.K D) : CallR X (.builtin "isinstance") (rIsX X.K D) := by
  intro pins s σ H xs us Q I r hq
  obtain ⟨a, dd, c, cv, b, fs, he, hdd, rfl, hcv, e, q⟩ := hq
  obtain ⟨u1, u2, rfl, r1, r2⟩ := vals2 r
  cases r1
  obtain rfl := hcv _ r2
  obtain ⟨oe, fv, g1, g2, g3⟩ := exc_at I.hok he
  obtain ⟨mA, hns, _⟩ : ObjOk X.prog X.w H s.heap dd (.xd fs) := I.hok dd _ hdd
  obtain ⟨od, ho, _⟩ := lookIn_ns hns
  have J : PySem.W.InstAt s.heap a oe D (some od) := ⟨g1, g2.1, by unfold PySem.W.notCls; rw [g3] <;> rfl, by rw [g2.2]; exact ho⟩
  obtain ⟨cd, hc, _⟩ := PySem.W.any_some C.hd
  exact PySem.W.kia_one (PySem.W.kitx_exc (by rw [hc]; rfl) C.ga C.gt C.sb C.ca C.cg C.ct C.mo) I.kIn J e (fun zz => nomatch zz) fun tk => ⟨.bl b, H, I.kept (t' := tk) fun _ _ zz => zz, rfl, q⟩
/-- e.n, e a caught exception of an own class -/
def tXk (D : Addr) (n : Str) (te : TE) : TE := fun σ H Q => te σ H fun x H1 => ∃ (a dd : Addr) (fs : List (Str × V)) (v : V), x = .ref a ∧ H1 a = some (exc a (.ref D) (some dd)) ∧ H1 dd = some (.xd fs) ∧ fs.lookup n = some v ∧ Q v H1
theorem pe_xk {X : Cx} {D : Addr} {e : Expr} {te : TE} {pos : Pos} {n : Str} (C : ExcK X.K D) (no : PySem.W.findIn X.K (.ref D) n = some none) (he : PE X e te) (hb : attributeBase e n X.env (eval e X.env) = eval e X.env := by rfl) : PE X (.Attribute e n pos) (tXk D n te) := by
  refine ⟨fun pins s σ H Q I hq => ?_⟩
  refine attr_of hb (thn (he.run pins s σ H _ I hq) fun u s1 hh => ?_)
  obtain ⟨x, H1, I1, rx, a, dd, fs, v, rfl, ha, hdd, l, q⟩ := hh
  cases rx
  obtain ⟨oe, fv, g1, g2, g3⟩ := exc_at I1.hok ha
  obtain ⟨mA, hns, hr⟩ : ObjOk X.prog X.w H1 s1.heap dd (.xd fs) := I1.hok dd _ hdd
  obtain ⟨od, ho, hl⟩ := lookIn_ns hns
  obtain ⟨u, hu, ru⟩ := RelO.some_of (v := v) (o := mA n) (by rw [← l]; exact hr n)
  have J : PySem.W.InstAt s1.heap a oe D (some od) := ⟨g1, g2.1, by unfold PySem.W.notCls; rw [g3] <;> rfl, by rw [g2.2]; exact ho⟩
  exact HandSPX.exc_get I1.kIn J C.ga C.gt C.sb (PySem.W.findObj_own C.hd no rfl (by rw [hl, hu])) (handed_of ru) ⟨v, H1, I1.tok _, ru, q⟩
end Lw
/-! Defs that ask repr of lists and tuples: what is known of the repr calls under way (none) goes from call to call. -/
namespace Lw
open PySem PySem.Spec PyProof.Rows L2 Evl LamX
/-- as FnOk, where no repr is under way -/
structure FnG (P : Program) (w : World) (K : PySem.W.Frag) (mg : Str → Option Value) (base : Heap) (CX : CXT) (k : Nat) (f : Addr) (fd : FuncData) (ps : List Str) (sp : Sp) : Prop where
  len : ∀ vs H Q E, sp vs H Q E → vs.length = ps.length
  run : ∀ (A : Around) (outer : List Env) (s : Shared) (H : Hp) (args : Args) (us : List Value) (vs : List V) (Q : VK) (E : XK), A.guards = some [] → Room k A → Env0 P w K mg base A outer s H → BindsTo s fd args (ps.zip us) →
    Vals vs us → sp vs H Q E → codeAny (model P w) A (.call (.ref f) args) (CR CX outer P w H s Q E) s
structure ClG (P : Program) (w : World) (K : PySem.W.Frag) (mg : Str → Option Value) (base : Heap) (CX : CXT) (k : Nat) (x : Str) (st : Stmt) (ps : List Str) (sp : Sp) : Prop where
  ex : ∃ (f : Addr) (fd : FuncData), Fun K x x st f fd ∧ FnG P w K mg base CX k f fd ps sp ∧ mg x = some (.ref f)
section
variable {P : Program} {w : World} {K : PySem.W.Frag} {mg : Str → Option Value} {base : Heap} {k : Nat} {x : Str} {st : Stmt} {ps N : List Str} {sp : Sp} {CX : CXT}
theorem clG_of (D : DefAt K mg x st) (S : FnScope N ps (defScope st)) (len : ∀ vs H Q E, sp vs H Q E → vs.length = ps.length)
    (hbody : ∀ (f : Addr) (cdv : Value) (A : Around) (outer : List Env) (s : Shared) (H : Hp) (vs : List V) (Q : VK) (E : XK), A.guards = some [] → Room k (A.deeper (envOfC x (defScope st) s.heap.objs.size f cdv)) → sp vs H Q E →
      ∃ t, PSs (cxOf CX0 P w K mg base N x (defScope st) f cdv A outer s H E).nox (defBody st) t ∧ t { nx := fun _ H' => Q .non H', rt := Q } (start N vs) H) : ClG P w K mg base CX0 (k + 1) x st ps sp := by
  obtain ⟨f, fd, F, m⟩ := D.ex
  refine ⟨f, fd, F, ?_, m⟩
  obtain ⟨oc, od, kV, doc, pm, an, cdv, ct, osl, rfl, lk, hcd⟩ := F.ex
  refine ⟨len, fun A outer s H args us vs Q E gd hr e0 hb r hs => run_ofS lk hcd S hr e0 hb r (len _ _ _ _ hs) fun hr' => ?_⟩
  obtain ⟨t, h, q⟩ := hbody f cdv A outer s H vs Q E gd hr' hs
  exact ⟨t, h.nox, q⟩
theorem ClG.at {f : Addr} {fd : FuncData} (c : ClG P w K mg base CX k x st ps sp) (F : Fun K x x st f fd) (m : mg x = some (.ref f)) : FnG P w K mg base CX k f fd ps sp := by
  obtain ⟨f', fd', F', o, m'⟩ := c.ex
  rw [m] at m'
  cases m'
  obtain ⟨oc, od, kV, doc, pm, an, cdv, ct, osl, rfl, lk, _⟩ := F.ex
  obtain ⟨oc', od', kV', doc', pm', an', cdv', ct', osl', rfl, lk', _⟩ := F'.ex
  have e := Option.some.inj (lk.symm.trans lk')
  injection e with _ _ e _
  injection e with e
  rw [e]
  exact o
end
section
variable {X : Cx} {CX : CXT} {k j : Nat} {x : Str} {st : Stmt} {sp : Sp} {ps : List Str} {p pos : Pos} {e : Expr} {es : List Expr} {t : TA} {E : XK}
/-- f(a, ..), no repr under way -/
theorem pe_clG (c : ClG X.prog X.w X.K X.mg X.base CX k x st ps sp) (b : Bnd x st ps) (gd : X.A.guards = some []) (hr : Room j X.A) (hk : k ≤ j) (hg : Gl X x) (hx : Passes CX X E) (ha : PA X (e :: es) t)
    (hdb : (x == ("__debug__" : Str)) = false := by decide) (he : starEach (e :: es) X.env = (false, eval e X.env) :: starEach es X.env := by rfl) (hpl : (backTo pos (starEach es X.env)).any (·.1) = false := by rfl) :
    PE X (.Call (.Name x p) (e :: es) [] pos) (tCall sp [] E t) := by
  obtain ⟨f, fd, F, o, m⟩ := c.ex
  refine ⟨fun pins s σ H Q I hq => wpAny_Call_Name_kw (ld_glob I hg m (PySem.W.callWith_K (h₀ := X.base) I.ok.mod.kin F.kp (thn (ha.run pos pins s σ H _ I hq) fun us s1 hh => ?_) he hpl) hdb)⟩
  obtain ⟨vs, H1, J, r, q⟩ := hh
  refine ⟨J.kIn, ?_⟩
  rw [List.append_nil] at q
  have hl : us.length = ps.length := r.length.symm.trans (o.len _ _ _ _ q)
  have bt : BindsTo s1 fd ⟨us, []⟩ (ps.zip us) := by
    have z := F.binds b s1 us J.kIn (by rw [List.append_nil]; exact hl)
    rwa [List.append_nil] at z
  refine wpAny_call (codeAny_mono (o.run X.A X.stack s1 H1 ⟨us, []⟩ us vs Q E gd (hr.mono hk) J.env0 bt r q) fun res s2 hq2 => ?_)
  cases res with
  | error er => exact hx pins σ H1 s1 er s2 J hq2
  | ok fl =>
    cases fl with
    | ret u => exact J.after hq2
    | next => exact hq2.elim
    | brk => exact hq2.elim
    | cont => exact hq2.elim
/-! ### repr -/
/-- data whose text is asked: what Dp tells, and the empty dict -/
inductive Dd (K : PySem.W.Frag) (H : Hp) : V → PyData → Prop
  | dp {v : V} {d : PyData} : Dp K H v d → SeqAt.shaped d = true → Dd K H v d
  | emp {a : Addr} : H a = some (.dK []) → Dd K H (.ref a) (.dict [])
  | kv {a : Addr} {ps : List (Int × Int)} : H a = some (.dK (kvI ps)) → Dd K H (.ref a) (.dict (ps.map fun p => (.int p.1, .int p.2)))
def Shows (d : PyData) : Prop := d.showable = true ∧ d.shown.length ≤ sizeLine ∧ PyData.strOk d.shown = true
theorem reads_kv {P : Program} {w : World} {h : Heap} : ∀ {es : List DictEntry} {vs : List (Key × Value)} {kvs : List (Key × V)} {ps : List (Int × Int)}, Pairs (mixKind P w) es vs → KV kvs vs → kvs = kvI ps →
    ReadsAll h (es.map (·.key)) ((ps.map fun p => ((.int p.1, .int p.2) : PyData × PyData)).map (·.1)) [] ∧ ReadsAll h (es.map (·.val)) ((ps.map fun p => ((.int p.1, .int p.2) : PyData × PyData)).map (·.2)) []
  | _, _, _, [], .nil, .nil, _ => ⟨.nil, .nil⟩
  | _, _, _, _ :: _, .nil, .nil, hk => by cases hk
  | _, _, _, [], .cons .., .cons .., hk => by cases hk
  | e :: _, _, _, p :: ps, .cons h1 h2 t, .cons r1 r2, hk => by
    cases hk
    obtain ⟨i1, i2⟩ := reads_kv (h := h) t r2 rfl
    obtain ⟨r1, r3⟩ := r1
    rcases keyIs_shape (show keyIs _ _ = true from h1) with ⟨i, tk, ek, ev⟩ | ⟨z, tk, ek, ev⟩
    · rw [← r1] at ek
      cases ek
      obtain ⟨t2, e2⟩ : ∃ t2, e.val = .int p.2 t2 := by
        rw [h2]
        exact r3
      refine ⟨?_, ?_⟩
      · show ReadsAll h (e.key :: _) (.int p.1 :: _) []
        rw [ev]
        exact .cons (as := []) (.int _ _) i1
      · show ReadsAll h (e.val :: _) (.int p.2 :: _) []
        rw [e2]
        exact .cons (as := []) (.int _ _) i2
    · rw [← r1] at ek
      cases ek
/-- repr(x), no repr under way -/
theorem call_reprD (gd : X.A.guards = some []) (hu : X.A.units + 70 < cLine) : CallR X (.builtin "repr") (fun xs H Q => ∃ v d, Dd X.K H v d ∧ Shows d ∧ xs = [v] ∧ Q (.str d.shown) H) := by
  intro pins s σ H xs us Q I r hq
  obtain ⟨v, d, hd, ⟨hs, hz, _⟩, rfl, q⟩ := hq
  obtain ⟨u, rfl, ru⟩ := vals1 r
  cases hd with
  | dp hd sh =>
    obtain ⟨as, rd⟩ := hd.reads I d _ u ru
    have lay := SeqAt.canLay_of_shaped sh
    have dep : d.depth ≤ 64 := by
      unfold SeqAt.shaped at sh
      rw [Bool.and_eq_true, decide_eq_true_eq] at sh
      exact sh.2
    cases rd with
    | none => exact PySem.P.repr_of_none ⟨.str _, H, I.tok _, ⟨_, rfl⟩, q⟩
    | bool b => exact PySem.P.repr_of_bool ⟨.str _, H, I.tok _, ⟨_, rfl⟩, q⟩
    | int i tk => exact PySem.P.repr_of_int (of_decide_eq_true hs) ⟨.str _, H, I.tok _, ⟨_, rfl⟩, q⟩
    | str y tk => exact PySem.P.repr_of_str ⟨.str _, H, I.tok _, ⟨_, rfl⟩, q⟩ hz
    | list g1 g2 g3 g4 =>
      refine PySem.repr_of_reads' (.list g1 g2 g3 g4) hs (PyData.noDict_hsm (PyData.hasDict_of_canLay _ lay)) gd (by omega) (fun _ _ zz => zz) (fun h' u' tk kp => ?_) hz
      exact ⟨.str _, H, I.kept (t' := tk) kp, ⟨_, rfl⟩, q⟩
    | tuple g1 g2 g3 g4 =>
      refine PySem.repr_of_reads' (.tuple g1 g2 g3 g4) hs (PyData.noDict_hsm (PyData.hasDict_of_canLay _ lay)) gd (by omega) (fun _ _ zz => zz) (fun h' u' tk kp => ?_) hz
      exact ⟨.str _, H, I.kept (t' := tk) kp, ⟨_, rfl⟩, q⟩
    | dict g1 g2 g3 g4 g5 => cases hd
  | emp ha =>
    cases ru
    obtain ⟨_, hm, vs, rel, o, es, ep, ho, hc, hdat, hks, hps, hnd⟩ := dk_of I.hok ha
    cases rel
    have e0 : es.toList = [] := List.length_eq_zero_iff.mp hps.length
    refine PySem.repr_of_reads' (d := .dict []) (.dict ho hc.1 hdat (by rw [e0]; exact .nil) (by rw [e0]; exact .nil)) hs (fun _ zz => ?_) gd (by show X.A.units + ((PyData.depthKv [] + 1) + 1) < cLine; rw [PyData.depthKv]; omega) (fun _ _ zz => zz) (fun h' u' tk kp => ?_) hz
    · have ne : _ ≠ sysModules := beq_eq_false_iff_ne.mp hm
      simp at zz
      exact ne zz.symm
    · exact ⟨.str _, H, I.kept (t' := tk) kp, ⟨_, rfl⟩, q⟩
  | kv ha =>
    cases ru
    obtain ⟨_, hm, vs, rel, o, es, ep, ho, hc, hdat, hks, hps, hnd⟩ := dk_of I.hok ha
    obtain ⟨k1, k2⟩ := reads_kv (h := s.heap) hps rel rfl
    refine PySem.repr_of_reads' (.dict ho hc.1 hdat k1 k2) hs (fun _ zz => ?_) gd (by
      have : ∀ ps : List (Int × Int), PyData.depthKv (ps.map fun p => ((.int p.1, .int p.2) : PyData × PyData)) ≤ 1 := fun ps => by
        induction ps with
        | nil => simp [PyData.depthKv]
        | cons p ps ih =>
          rw [List.map_cons, PyData.depthKv]
          simp only [PyData.depth]
          omega
      rw [PyData.depth]
      have := this ‹_›
      omega) (fun _ _ zz => zz) (fun h' u' tk kp => ?_) hz
    · have ne : _ ≠ sysModules := beq_eq_false_iff_ne.mp hm
      simp at zz
      exact ne zz.symm
    · exact ⟨.str _, H, I.kept (t' := tk) kp, ⟨_, rfl⟩, q⟩
end
end Lw
/-! The end of a law whose promise knows that no repr is under way (FnG), with the tables of the lambdas' makers. -/
namespace Lw
open PySem PySem.Spec PyProof.Rows L2 Evl LamX
/-- a list of ints of this kind as an object -/
abbrev scriptO (us : List Value) : Obj := { cls := .type "list", data := .seq us.toArray }
abbrev noCodes : Obj := { cls := .none, data := .fields #[] }
section
variable {P : Program} {w : World} {K : PySem.W.Frag} {mg mb : Str → Option Value} {CX : CXT} {k : Nat} {fa a : Addr} {cs : List (Addr × Addr)} {fd : FuncData} {x : Str} {sp : Sp} {st : Shared} {us : List Value} {ns : List Int}
/-- what is tracked at the start: the tables, and the script where the written part does not hold it -/
def startH (K : PySem.W.Frag) (ts : List Addr) (a : Addr) (us : List Value) (ns : List Int) : Hp := fun b =>
  if b ∈ ts then some (.tbl #[]) else if b = a ∧ (K.lookup a).isNone = true then some (.frz (scriptO us) (.lst (ns.map V.int))) else none
theorem startH_t {ts : List Addr} {b : Addr} (m : b ∈ ts) : startH K ts a us ns b = some (.tbl #[]) := if_pos m
theorem startH_inv {ts : List Addr} {b : Addr} {u : HO} (e : startH K ts a us ns b = some u) : (b ∈ ts ∧ u = .tbl #[]) ∨ (b ∉ ts ∧ b = a ∧ K.lookup a = none ∧ u = .frz (scriptO us) (.lst (ns.map V.int))) := by
  unfold startH at e
  by_cases m : b ∈ ts
  · rw [if_pos m] at e
    exact .inl ⟨m, (Option.some.inj e).symm⟩
  · rw [if_neg m] at e
    by_cases c : b = a ∧ (K.lookup a).isNone = true
    · rw [if_pos c] at e
      exact .inr ⟨m, c.1, Option.isNone_iff_eq_none.mp c.2, (Option.some.inj e).symm⟩
    · rw [if_neg c] at e
      cases e
theorem startH_not {ts : List Addr} {b : Addr} (h1 : b ∉ ts) (h2 : b = a → K.lookup a ≠ none) : startH K ts a us ns b = none := by
  cases e : startH K ts a us ns b with
  | none => rfl
  | some u =>
    rcases startH_inv e with ⟨m, _⟩ | ⟨_, e1, e2, _⟩
    · exact absurd m h1
    · exact absurd e2 (h2 e1)
theorem law_gd (KX : K.In st.heap) (hns : st.heap.Ns mainGlobals mg) (hb : st.heap.Ns builtinsNs mb) (hbb : ∀ y : Str, y ≠ "__name__" → mb y = bootBuiltins y) (hlim : st.heap.NoLimit) (hg : st.gens = #[])
    (hT : ∀ p ∈ cs, st.heap.get? p.2 = some noCodes) (nT : ∀ p ∈ cs, K.lookup p.2 = none) (C : ∀ p ∈ cs, PySem.W.CodeHd st.heap p.1 p.2)
    (hbm : ∃ (bm : Addr) (ob : Obj), mg "__builtins__" = some (.ref bm) ∧ bm ≠ builtinsNs ∧ st.heap.get? bm = some ob ∧ ob.cls = .type "module" ∧ ob.dict = some builtinsNs ∧ ob.data = .plain)
    (ha : st.heap.get? a = some (scriptO us)) (hi : IntsAre us ns) (hl : ns.length ≤ sizeLine) (room : Room k callerA)
    (F : ∀ base : Heap, K.In base → base.Ns mainGlobals mg → (∀ p ∈ cs, TabB base mg p.1 p.2) → FnG P w K mg base CX k fa fd [x] sp) (hbind : ∀ (s : Shared) (u : Value), BindsTo s fd ⟨[u], []⟩ [(x, u)])
    (hsp : ∀ H : Hp, (∀ p ∈ cs, H p.2 = some (.tbl #[])) → SqL K H a (ns.map V.int) → sp [.ref a] H (fun v _ => v = .bl true) fun _ _ _ => False)
    (hCX : ∀ H e s', CX [] H st (fun _ _ _ => False) e s' → False) :
    codeAny (model P w) callerA (.call (.ref fa) ⟨[.ref a], []⟩) (fun r z => r = .ok (.ret (.bool true)) ∧ OldK st.heap z.heap ∧ z.os = st.os ∧ AllBare z.gens) st := by
  obtain ⟨ts, ets⟩ : ∃ ts : List Addr, ts = cs.map (·.2) := ⟨_, rfl⟩
  have inT : ∀ p ∈ cs, p.2 ∈ ts := fun p m => by rw [ets]; exact List.mem_map.mpr ⟨p, m, rfl⟩
  have ofT : ∀ b ∈ ts, ∃ p ∈ cs, p.2 = b := fun b m => by
    rw [ets] at m
    obtain ⟨p, q, e⟩ := List.mem_map.mp m
    exact ⟨p, q, e⟩
  have atT : ∀ b ∈ ts, st.heap.get? b = some noCodes := fun b m => by
    obtain ⟨p, q, e⟩ := ofT b m
    rw [← e]
    exact hT p q
  have aT : a ∉ ts := fun m => by
    have q := atT a m
    rw [ha] at q
    have q' := congrArg Obj.cls (Option.some.inj q)
    cases q'
  obtain ⟨H, eH⟩ : ∃ H : Hp, H = startH K ts a us ns := ⟨_, rfl⟩
  have inv : ∀ {b u}, H b = some u → (b ∈ ts ∧ u = .tbl #[]) ∨ (b ∉ ts ∧ b = a ∧ K.lookup a = none ∧ u = .frz (scriptO us) (.lst (ns.map V.int))) := fun {b u} e => startH_inv (by rw [eH] at e; exact e)
  have tab : ∀ b ∈ ts, H b = some (.tbl #[]) := fun b m => by rw [eH]; exact startH_t m
  have lenU : us.length = ns.length := hi.length
  have rel := vals_ints hi
  have free : ∀ {b : Addr} {o : Obj}, st.heap.get? b = some o → o.cls ≠ .type "list" → o.cls ≠ .none → H b = none := fun {b o} e n1 n2 => by
    cases q : H b with
    | none => rfl
    | some u =>
      rcases inv q with ⟨m, _⟩ | ⟨_, e1, _, _⟩
      · rw [atT b m] at e
        cases e
        exact absurd rfl n2
      · rw [e1, ha] at e
        cases e
        exact absurd rfl n1
  have freeD : ∀ {b : Addr} {o : Obj}, st.heap.get? b = some o → (∀ zs n, o.data ≠ .seq zs n) → o.data ≠ .fields #[] → H b = none := fun {b o} e n1 n2 => by
    cases q : H b with
    | none => rfl
    | some u =>
      rcases inv q with ⟨m, _⟩ | ⟨_, e1, _, _⟩
      · rw [atT b m] at e
        cases e
        exact absurd rfl n2
      · rw [e1, ha] at e
        cases e
        exact absurd rfl (n1 _ _)
  have up : ∀ {b : Addr} {o : Obj}, st.heap.get? b = some o → H b = none → (hidT st.heap H).get? b = some o := fun e n => hidT_get e n
  have dict : ∀ {b : Addr} {m : Str → Option Value}, st.heap.Ns b m → (hidT st.heap H).Ns b m := fun {b m} ⟨o, es, ep, e, d, r⟩ =>
    ⟨o, es, ep, up e (freeD e (fun zs n z => by rw [d] at z; cases z) fun z => by rw [d] at z; cases z), d, r⟩
  have kin : K.In (hidT st.heap H) := fun b o e => up (KX b o e) (by
    cases q : H b with
    | none => rfl
    | some u =>
      rcases inv q with ⟨m, _⟩ | ⟨_, e1, e2, _⟩
      · obtain ⟨p, pm, ep⟩ := ofT b m
        rw [← ep, nT p pm] at e
        cases e
      · rw [e1, e2] at e
        cases e)
  have mod : L2.Mod K mg (hidT st.heap H) := ⟨kin, dict hns, ⟨mb, dict hb, hbb⟩, let ⟨mc, l1, l2⟩ := hlim; ⟨mc, dict l1, l2⟩⟩
  have hok : HOk P w H st.heap := fun b u e => by
    rcases inv e with ⟨m, rfl⟩ | ⟨_, rfl, _, rfl⟩
    · exact atT b m
    · exact ⟨ha, by rw [List.length_map]; exact hl, us, _, rel, ha⟩
  have seq : SqL K H a (ns.map V.int) := by
    cases hk : K.lookup a with
    | some o =>
      have e := KX a o hk
      rw [ha] at e
      cases e
      exact .inr ⟨_, us.toArray, _, hk, rfl, rfl, rfl, by rw [List.size_toArray, lenU]; exact hl, by simpa using rel⟩
    | none => exact .inl (.inr ⟨scriptO us, by rw [eH]; unfold startH; rw [if_neg aT, if_pos ⟨rfl, by rw [hk]; rfl⟩]⟩)
  have tabs : ∀ p ∈ cs, TabB (hidT st.heap H) mg p.1 p.2 := fun p pm => by
    have hTp := hT p pm
    refine ⟨?_, ?_, fun z => ?_⟩
    · obtain ⟨o, vs, f1, f2, f3, f4, f5, f6, f7, e1, r1, r2, r3, rest⟩ := C p pm
      exact ⟨o, vs, f1, f2, f3, f4, f5, f6, f7, up e1 (free e1 (by rw [r1]; simp) (by rw [r1]; simp)), r1, r2, r3, rest⟩
    · obtain ⟨bm, ob, b1, b2, b3, b4, b5, b6⟩ := hbm
      refine ⟨bm, ob, b1, b2, fun z => ?_, fun z => ?_, up b3 (free b3 (by rw [b4]; simp) (by rw [b4]; simp)), b4, b5, b6⟩
      · obtain ⟨o, es, ep, e, hd, _⟩ := hns
        rw [z, e] at b3
        cases b3
        rw [hd] at b6
        cases b6
      · rw [z, hTp] at b3
        cases b3
        cases b6
    · obtain ⟨o, es, ep, e, hd, _⟩ := hns
      rw [z, hTp] at e
      cases e
      cases hd
  have env : Env0 P w K mg (hidT st.heap H) callerA [] st H := ⟨rfl, mod, fun b o e => of_hidT e, Nat.le_of_eq (hidT_size _ _), trivial, fun b m => (List.not_mem_nil m).elim, hok, .of_eq hg⟩
  refine codeAny_mono ((F _ kin (dict hns) tabs).run callerA [] st H ⟨[.ref a], []⟩ [.ref a] [.ref a] _ _ rfl room env (hbind st (.ref a)) (.cons rfl .nil) (hsp H (fun p pm => tab _ (inT p pm)) seq)) fun res z hz => ?_
  cases res with
  | error er => exact (hCX H er z hz).elim
  | ok fl =>
    cases fl with
    | next => exact hz.elim
    | brk => exact hz.elim
    | cont => exact hz.elim
    | ret u =>
      obtain ⟨v, H', o1, o2, un, hok', ru, q⟩ := hz
      obtain rfl : v = .bl true := q
      obtain rfl : u = Value.bool true := ru
      have held : ∀ b o, b ∉ ts → st.heap.get? b = some o → z.heap.get? b = some o := fun b o n e => by
        cases q : H b with
        | none => exact un.keep b o e q (fun m => (List.not_mem_nil m).elim) (fun m => (List.not_mem_nil m).elim)
        | some u =>
          rcases inv q with ⟨m, _⟩ | ⟨_, e1, e2, rfl⟩
          · exact absurd m n
          · have e3 := (hok' b _ (un.frzs b _ _ q)).1
            rw [e1, ha] at e
            cases e
            rw [e1] at e3 ⊢
            exact e3
      have more : ∀ b ∈ ts, ∃ zs : Array Value, z.heap.get? b = some { cls := .none, data := .fields zs } := fun b m => by
        obtain ⟨zs, e⟩ := un.tbls b #[] (tab b m)
        exact ⟨_, hok' b _ e⟩
      refine ⟨rfl, ⟨fun b o e => ?_, fun b o e => ?_⟩, o1, o2⟩
      · by_cases m : b ∈ ts
        · obtain ⟨p, pm, rfl⟩ := ofT b m
          obtain ⟨zs, e2⟩ := more _ m
          rw [hT p pm] at e
          cases e
          exact .inr (.inl ⟨((C p pm).tab (hT p pm)).isCodeTable, rfl, #[], zs, rfl, by rw [Array.empty_append]; exact e2⟩)
        · exact .inl (held b o m e)
      · by_cases m : b ∈ ts
        · obtain ⟨zs, e2⟩ := more b m
          exact ⟨_, e2⟩
        · exact ⟨o, held b o m e⟩
end
/-- the law's promise, at the head's heap h -/
def LawG (l : PySem.W.OpenLaw) (w : World) (K : PySem.W.Frag) (CX : CXT) (k n : Nat) (x : Str) (mg : Str → Option Value) (fa : Addr) (h : Heap) : Prop :=
  ∃ (fd : FuncData) (cs : List (Addr × Addr)) (sp : Sp), (∀ p ∈ cs, h.get? p.2 = some noCodes) ∧ (∀ p ∈ cs, K.lookup p.2 = none) ∧ (∀ p ∈ cs, PySem.W.CodeHd h p.1 p.2) ∧ (∀ (s : Shared) (u : Value), BindsTo s fd ⟨[u], []⟩ [(x, u)]) ∧
    (∀ (H : Hp) (a : Addr) (ns : List Int), ns.length ≤ n → (∀ p ∈ cs, H p.2 = some (.tbl #[])) → SqL K H a (ns.map V.int) → sp [.ref a] H (fun v _ => v = .bl true) fun _ _ _ => False) ∧
    ∀ base : Heap, K.In base → base.Ns mainGlobals mg → (∀ p ∈ cs, TabB base mg p.1 p.2) → FnG l.prog w K mg base CX k fa fd [x] sp
theorem walk_gd {l : PySem.W.OpenLaw} {n k : Nat} {q : Program} {lo : List Str} {XQ : (Str → Option Value) → Heap → Prop} {YQ : World → Heap → Prop} {d : DefRec} {K : Params → PySem.W.Frag} {CX : World → CXT} {x : Str}
    (m1 : l.most = some n) (m2 : n ≤ sizeLine) (df : d.params.defaults = []) (room : Room k callerA) (hY : ∀ (w : World) (h : Heap), YQ w h → (K w.params).In h)
    (F : ∀ (w : World) (mg : Str → Option Value) (fa : Addr) (h : Heap), YQ w h → (K w.params).In h → h.Ns mainGlobals mg → mg d.name = some (.ref fa) → LawG l w (K w.params) (CX w) k n x mg fa h)
    (hCX : ∀ (w : World) (H : Hp) (s : Shared) (e : Value) (s' : Shared), CX w [] H s (fun _ _ _ => False) e s' → False) : PySem.W.WalkO q lo XQ YQ l.row.toRowW d [] (fun f vs => PySem.call f vs) := by
  refine Att.attach_callB m1 df fun w s₀ s₁ mg mb fa o pm cd doc a vs ns G Y ho hd hcd hmg obj itsI len bits gens => ?_
  have KX := hY w _ Y
  obtain ⟨fd, cs, sp, t1, t2, t3, hb, hs, hF⟩ := F w mg fa _ Y KX G.T.g hmg
  exact law_gd KX G.T.g G.T.b G.T.builtins G.T.nolimit gens t1 t2 t3 G.T.bmain obj itsI (Nat.le_trans len m2) room hF hb (fun H c S => hs H a ns len c S) fun H e z => hCX w H s₁ e z
/-! ### defs that make lambdas -/
/-- a def of the text, its code object at c -/
structure DefC (K : PySem.W.Frag) (mg : Str → Option Value) (x : Str) (st : Stmt) (c : Addr) : Prop where
  ex : ∃ (f : Addr) (oc : Value) (od an : Option Addr) (osl : Array (Option Value)) (kV doc pm ct : Value), K.lookup f = some ⟨oc, od, .func (PySem.W.fnOf x x (defArgs st) (defBody st) (defScope st) .none kV doc pm an (.ref c) ct), osl⟩ ∧
    PySem.W.codeIn K (.ref c) x = true ∧ PySem.W.keepIn K (.ref f) = true ∧ mg x = some (.ref f)
theorem defC_mk {K : PySem.W.Frag} {mg : Str → Option Value} {x : Str} {st : Stmt} {h : Heap} {f c : Addr} {oc : Value} {od an : Option Addr} {osl : Array (Option Value)} {kV doc pm ct : Value} (X : K.In h) (G : h.Ns mainGlobals mg)
    (a : PySem.W.nsIn K mainGlobals x = some (some (.ref f))) (l : K.lookup f = some ⟨oc, od, .func (PySem.W.fnOf x x (defArgs st) (defBody st) (defScope st) .none kV doc pm an (.ref c) ct), osl⟩) (ci : PySem.W.codeIn K (.ref c) x = true)
    (kp : PySem.W.keepIn K (.ref f) = true) : DefC K mg x st c := ⟨f, oc, od, an, osl, kV, doc, pm, ct, l, ci, kp, PySem.W.mg_of X G a⟩
theorem clC_of {P : Program} {w : World} {K : PySem.W.Frag} {mg : Str → Option Value} {base : Heap} {k : Nat} {x : Str} {st : Stmt} {ps N : List Str} {sp : Sp} {c : Addr} (D : DefC K mg x st c) (S : FnScope N ps (defScope st)) (len : ∀ vs H Q E, sp vs H Q E → vs.length = ps.length)
    (hbody : ∀ (f : Addr) (A : Around) (outer : List Env) (s : Shared) (H : Hp) (vs : List V) (Q : VK) (E : XK), A.guards = some [] → Room k (A.deeper (envOfC x (defScope st) s.heap.objs.size f (.ref c))) → sp vs H Q E →
      ∃ t, PSs (cxOf CX0 P w K mg base N x (defScope st) f (.ref c) A outer s H E).nox (defBody st) t ∧ t { nx := fun _ H' => Q .non H', rt := Q } (start N vs) H) : ClG P w K mg base CX0 (k + 1) x st ps sp := by
  obtain ⟨f, oc, od, an, osl, kV, doc, pm, ct, lk, hcd, kp, m⟩ := D.ex
  refine ⟨f, _, fun_mk lk hcd kp, ⟨len, fun A outer s H args us vs Q E gd hr e0 hb r hs => run_ofS lk hcd S hr e0 hb r (len _ _ _ _ hs) fun hr' => ?_⟩, m⟩
  obtain ⟨t, h, q⟩ := hbody f A outer s H vs Q E gd hr' hs
  exact ⟨t, h.nox, q⟩
theorem lawG_fd {K : PySem.W.Frag} {mg : Str → Option Value} {x p : Str} {st : Stmt} {fa : Addr} (D : DefAt K mg x st) (b : Bnd x st [p]) (hfa : mg x = some (.ref fa)) : ∃ fd, Fun K x x st fa fd ∧ ∀ (s : Shared) (u : Value), BindsTo s fd ⟨[u], []⟩ [(p, u)] := law_fd D b hfa
end Lw
/-! A def that is handed a lambda; what stays where tables of code objects grow. -/
namespace Lw
open PySem PySem.Spec PyProof.Rows L2 Evl LamX
theorem u70 {k : Nat} {A : Around} (hr : Room k A) : A.units + 70 < cLine := by
  have := hr.un
  omega
section
variable {X : Cx}
/-- x(lambda: body), x a def of the text with one parameter -/
theorem pe_lamc {TT : (XK → Hp → VK → Prop) → Hp → VK → Prop} {x a : Str} {st : Stmt} {c P : Addr} {k : Nat} {Ng : List Str} {params : Arguments} {body : Expr} {scope : Scope} {t : XK → TE} {p lpos pos : Pos} (D : DefAt X.K X.mg x st) (b : Bnd x st [a]) (hg : Gl X x)
    (Sg : FnScope Ng [a] (defScope st)) (hNg : Ng[0]? = some a) (hva : Vis (defScope st) a) (hG : ∀ g cdv, GivesTo X Ng x (defScope st) g cdv (defBody st) a (X.env.qual ++ "<lambda>") TT)
    (TB : TabB X.base X.mg c P) (hcode : X.env.code = .ref c) (hr : Room (k + 2) X.A) (L : LamS X.env.scope scope) (hdef : defaultsOf params X.env = ([], []))
    (hbind : ∀ (q : Str) (cl : List (Str × Addr)) (pm cv ctv : Value), bindArgs (PySem.W.kla_fn "<lambda>" q params body scope cl pm cv ctv) ⟨[], []⟩ = pure [])
    (hbody : ∀ (A : Around) (outer : List Env) (s : Shared) (H : Hp) (E : XK) (f c' : Addr), Room k (A.deeper (lamEnv X scope s.heap.objs.size f c')) → PE (lamCx X A outer s H E scope f c') body (t E))
    (d1 : (x == ("__debug__" : Str)) = false := by decide) (d2 : (a == ("__debug__" : Str)) = false := by decide) (d3 : (a == ("__classdict__" : Str)) = false := by decide) :
    PE X (.Call (.Name x p) [.Lambda params body scope lpos] [] pos) (tLam [(P, X.env.qual ++ "<lambda>")] TT t) := by
  obtain ⟨f, fd, F, m⟩ := D.ex
  have kp := F.kp
  have bs := F.binds b
  obtain ⟨oc, od, kV, doc, pm, an, cdv, ct, osl, rfl, lk, hcd⟩ := F.ex
  exact pe_lamcall hg m kp lk hcd bs Sg hNg hva (hG f cdv) TB hcode List.mem_cons_self (fun q hq _ => by
    obtain rfl : q = _ := by simpa using hq
    rfl) hr L hdef hbind hbody d1 d2 d3
end
/-! ### what stays, tables aside -/
theorem ExtN.ex {H H' : Hp} (e : Ex H H') : ExtN H H' := ExtN.of fun b o h => e b o h
section
variable {K : PySem.W.Frag} {H H' : Hp} {a : Addr} {v : V} {n : String}
theorem sqN_l {xs : List V} (e : ExtN H H') (h : SqL K H a xs) : SqL K H' a xs := by
  rcases h with (h | ⟨o, h⟩) | h
  · exact .inl (.inl (e _ _ h fun ps z => by cases z))
  · exact .inl (.inr ⟨o, e _ _ h fun ps z => by cases z⟩)
  · exact .inr h
theorem sqN_t {xs : List V} (e : ExtN H H') (h : SqT K H a xs) : SqT K H' a xs := by
  rcases h with (h | ⟨o, h⟩) | h
  · exact .inl (.inl (e _ _ h fun ps z => by cases z))
  · exact .inl (.inr ⟨o, e _ _ h fun ps z => by cases z⟩)
  · exact .inr h
theorem Pool.upN (e : ExtN H H') (h : Pool H a) : Pool H' a := e _ _ h fun ps z => by cases z
mutual
theorem dpN (e : ExtN H H') : ∀ {v : V} {d : PyData}, Dp K H v d → Dp K H' v d
  | _, _, .non => .non
  | _, _, .bl b => .bl b
  | _, _, .int i => .int i
  | _, _, .str y => .str y
  | _, _, .lst h t => .lst (sqN_l e h) (dpsN e t)
  | _, _, .tup h t => .tup (sqN_t e h) (dpsN e t)
theorem dpsN (e : ExtN H H') : ∀ {vs : List V} {ds : List PyData}, DpAll K H vs ds → DpAll K H' vs ds
  | _, _, .nil => .nil
  | _, _, .cons h t => .cons (dpN e h) (dpsN e t)
end
theorem Dd.upN {d : PyData} (e : ExtN H H') (h : Dd K H v d) : Dd K H' v d := by
  cases h with
  | dp h s => exact .dp (dpN e h) s
  | emp h => exact .emp (e _ _ h fun ps z => by cases z)
  | kv h => exact .kv (e _ _ h fun ps z => by cases z)
theorem Dd.up {d : PyData} (e : Ex H H') (h : Dd K H v d) : Dd K H' v d := h.upN (ExtN.ex e)
theorem Kd.upN (e : ExtN H H') (k : Kd H v n) : Kd H' v n := by
  cases k with
  | int i => exact .int i
  | bl b => exact .bl b
  | str s => exact .str s
  | non => exact .non
  | tup h => exact .tup (e _ _ h fun ps z => by cases z)
  | fz h => exact .fz (e _ _ h fun ps z => by cases z)
  | lst h => exact .lst (e _ _ h fun ps z => by cases z)
  | dK h => exact .dK (e _ _ h fun ps z => by cases z)
theorem Th.upN {b : Bool} (e : ExtN H H') (k : Th H v b) : Th H' v b := by
  cases k with
  | other k h => exact .other (k.upN e) h
  | tup h ks => exact .tup (e _ _ h fun ps z => by cases z) fun x hx => let ⟨n, k⟩ := ks x hx; ⟨n, k.upN e⟩
end
theorem extN_mut {H H' : Hp} {a : Addr} {o : HO} (e : ExtN H H') (n : H a = none) : ExtN H (upd H' a o) := fun b u h t => by
  rw [upd_ne (fun z => by rw [z, n] at h; cases h)]
  exact e b u h t
theorem tabs_mut {T : List (Addr × Str)} {H : Hp} {a : Addr} {xs ys : List V} (t : Tabs T H) (h : H a = some (.lst xs)) : Tabs T (upd H a (.lst ys)) := fun p hp => by
  obtain ⟨ps, h1, h2, h3⟩ := t p hp
  have ne : ∀ {b u}, H b = some u → u ≠ .lst xs → b ≠ a := fun {b u} q n z => by
    rw [z, h] at q
    exact n (Option.some.inj q).symm
  refine ⟨ps, by rw [upd_ne (ne h1 (by intro z; cases z))]; exact h1, h2, fun pos cv hc => ?_⟩
  obtain ⟨c, e1, e2⟩ := h3 pos cv hc
  exact ⟨c, e1, by rw [upd_ne (ne e2 (by unfold CodeO; intro z; cases z))]; exact e2⟩
section
variable {H1 : Hp} {D : Addr} {n : Nat} {g : TG} {tt : TT} {te : TE} {vs : List Nat} {σ : L2.St} {Qd : Hp → Prop}
/-- a list of truths, made over range(n), where tables may grow -/
theorem lcRT (T : List (Addr × Str)) (hD : H1 D = none) (hn : n ≤ 50000) (t0 : Tabs T H1)
    (hs : ∀ i, i < n → ∀ H, ExtN H1 H → Tabs T H → ∀ (Q1 : VK) (Q2 : Hp → Prop), (∀ H4, ExtN H H4 → Tabs T H4 → Q1 (.bl true) H4) → g (.int ((0 : Int) + i)) (wipe σ vs) H fun σ2 H2 => wipe σ2 vs = wipe σ vs ∧ tt σ2 H2 fun b H3 => if b = true then te σ2 H3 Q1 else Q2 H3)
    (hd : ∀ H', ExtN H1 H' → Tabs T H' → H' D = some (.lst ((List.replicate n true).map V.bl)) → Qd H') :
    ∃ W : Nat → Nat → Hp → Prop, (∃ m, W 0 m (upd H1 D (.lst []))) ∧ ∀ i m H, W i m H →
      ((Itr 0 n).stop i H ∧ Qd H) ∨ ((Itr 0 n).go i H ∧ ∃ Nx : Hp → Prop, (∀ H', Nx H' → ∃ m', m' < m ∧ W (i + 1) m' H') ∧ ∀ x H', (Itr 0 n).yld i H x H' → g x (wipe σ vs) H' fun σ2 H2 => wipe σ2 vs = wipe σ vs ∧ tt σ2 H2 fun b H3 =>
        if b = true then te σ2 H3 fun y H4 => ∃ acc, H4 D = some (.lst acc) ∧ acc.length < sizeLine ∧ Nx (upd H4 D (.lst (acc ++ [y]))) else Nx H3) := by
  refine lc_range (fun i H => ExtN H1 H ∧ Tabs T H ∧ H D = some (.lst ((List.replicate i true).map V.bl))) ⟨ExtN.ex (Ex.new hD), t0.ext (fun b o h => Ex.new hD b o h), upd_same⟩ (fun i H hi I => ?_) (fun H I => hd H I.1 I.2.1 I.2.2)
  obtain ⟨e, t, h⟩ := I
  refine hs i hi H e t _ _ fun H4 e4 t4 => ?_
  have h4 := e4 _ _ h (fun ps z => by cases z)
  refine ⟨_, h4, Nat.lt_of_lt_of_le (show _ < 60000 by rw [List.length_map, List.length_replicate]; omega) (Nat.le_trans (by decide) line_ge), extN_mut (e.trans e4) hD, tabs_mut t4 h4, ?_⟩
  rw [upd_same, List.replicate_succ', List.map_append]
  rfl
end
/-! ### classes of errors -/
/-- x is a class of errors that is caught by (A, B, C) -/
structure ErrAt (K : PySem.W.Frag) (mg : Str → Option Value) (x a b c : Str) : Prop where
  ex : ∃ C A B D : Addr, mg x = some (.ref C) ∧ mg a = some (.ref A) ∧ mg b = some (.ref B) ∧ mg c = some (.ref D) ∧ PySem.W.exmAny K (.ref C) [.ref A, .ref B, .ref D] = some true ∧ ExcK K C
theorem errAt_mk {K : PySem.W.Frag} {mg : Str → Option Value} {x a b c : Str} {h : Heap} {C A B D : Addr} (X : K.In h) (G : h.Ns mainGlobals mg) (n1 : PySem.W.nsIn K mainGlobals x = some (some (.ref C))) (n2 : PySem.W.nsIn K mainGlobals a = some (some (.ref A)))
    (n3 : PySem.W.nsIn K mainGlobals b = some (some (.ref B))) (n4 : PySem.W.nsIn K mainGlobals c = some (some (.ref D))) (e : PySem.W.exmAny K (.ref C) [.ref A, .ref B, .ref D] = some true)
    (ga : PySem.W.findIn K (.ref C) "__getattribute__" = some (some (.builtin "BaseException.__getattribute__"))) (gt : PySem.W.findIn K (.ref C) "__getattr__" = some none) (sb : PySem.W.subIn K (.ref C) (.type "BaseException") = some true)
    (hd : PySem.W.hasDictIn K C = true) (ca : PySem.W.findIn K (.ref C) "__class__" = some (some (.builtin "object.__class__"))) (cg : PySem.W.specialIn K (.builtin "object.__class__") "__get__" = some (some (.builtin "getset_descriptor.__get__")))
    (ct : PySem.W.takesIn K (.builtin "object.__class__") = some true) (mo : PySem.W.mroIn K C (.type "object") = some true) : ErrAt K mg x a b c :=
  ⟨C, A, B, D, PySem.W.mg_of X G n1, PySem.W.mg_of X G n2, PySem.W.mg_of X G n3, PySem.W.mg_of X G n4, e, ga, gt, sb, hd, ca, cg, ct, mo⟩
/-- isinstance of an x: of the own class y -/
structure AskC (K : PySem.W.Frag) (mg : Str → Option Value) (x y : Str) (b : Bool) : Prop where
  ex : ∃ C D : Addr, mg x = some (.ref C) ∧ mg y = some (.ref D) ∧ PySem.W.kitOne K (.ref C) (.ref D) = some b
theorem askC_mk {K : PySem.W.Frag} {mg : Str → Option Value} {x y : Str} {b : Bool} {h : Heap} {C D : Addr} (X : K.In h) (G : h.Ns mainGlobals mg) (n1 : PySem.W.nsIn K mainGlobals x = some (some (.ref C))) (n2 : PySem.W.nsIn K mainGlobals y = some (some (.ref D)))
    (e : PySem.W.kitOne K (.ref C) (.ref D) = some b) : AskC K mg x y b := ⟨C, D, PySem.W.mg_of X G n1, PySem.W.mg_of X G n2, e⟩
/-- of the built-in class y -/
structure AskT (K : PySem.W.Frag) (mg : Str → Option Value) (x : Str) (y : String) (b : Bool) : Prop where
  ex : ∃ C : Addr, mg x = some (.ref C) ∧ PySem.W.kitOne K (.ref C) (.type y) = some b
theorem askT_mk {K : PySem.W.Frag} {mg : Str → Option Value} {x : Str} {y : String} {b : Bool} {h : Heap} {C : Addr} (X : K.In h) (G : h.Ns mainGlobals mg) (n1 : PySem.W.nsIn K mainGlobals x = some (some (.ref C))) (e : PySem.W.kitOne K (.ref C) (.type y) = some b) :
    AskT K mg x y b := ⟨C, PySem.W.mg_of X G n1, e⟩
/-- the exception that a caught call let out: of the class at C, with this value -/
def Out (K : PySem.W.Frag) (C : Addr) (f : Str) (cls : Value) (d : Option Addr) (H : Hp) (dt : PyData) : Prop := ∃ dd v, cls = .ref C ∧ d = some dd ∧ H dd = some (.xd [(f, v)]) ∧ Dd K H v dt ∧ Shows dt
/-- _law_caught(..) of a call that raises an error of C: [tag, repr(its value)] -/
def TCaught (K : PySem.W.Frag) (C : Addr) (f tag : Str) : (XK → Hp → VK → Prop) → Hp → VK → Prop := fun tl H Q =>
  tl (fun cls d H' => ∃ dt, Out K C f cls d H' dt ∧ ∀ l H2, Ex H' H2 → H2 l = some (.lst [.str tag, .str dt.shown]) → Q (.ref l) H2) H (fun _ H' => [V.str "none", V.str ""].length ≤ sizeLine ∧ ∀ p, H' p = none → Q (.ref p) (upd H' p (.lst [.str "none", .str ""])))
end Lw
/-! Values whose repr is asked: atoms, lists and tuples of atoms, the empty dict. -/
namespace Lw
open PySem PySem.Spec PyProof.Rows L2 Evl LamX
inductive Atm : V → PyData → Prop
  | non : Atm .non .none
  | bl (b : Bool) : Atm (.bl b) (.bool b)
  | int (i : Int) : i.natAbs < 2 ^ 1000 → Atm (.int i) (.int i)
  | emp : Atm (.str "") (.str "")
/-- its text can be told -/
def Dsp (K : PySem.W.Frag) (H : Hp) (v : V) : Prop := ∃ d, Dd K H v d ∧ Shows d
/-! ### texts of valid signs -/
theorem ok_app (x y : Str) : PyData.strOk (x ++ y) = (PyData.strOk x && PyData.strOk y) := by
  show (x.cps ++ y.cps).all _ = (x.cps.all _ && y.cps.all _)
  rw [Array.all_append]
theorem ok_of (s : String) : PyData.strOk (Str.ofString s) = true := by
  rw [Str.ofString_eq_toList]
  show ((s.toList.map Char.toNat).toArray).all _ = true
  rw [List.all_toArray, List.all_eq_true]
  intro n hn
  obtain ⟨c, _, rfl⟩ := List.mem_map.mp hn
  have := c.valid
  refine decide_eq_true ?_
  show c.val.toNat < 0x110000
  rcases this with h | h
  · have : c.val.toNat < 55296 := h
    omega
  · exact h.2
theorem ok_text : ∀ {ts : List Str} {k : Nat} {acc : Str}, PyData.strOk acc = true → (∀ t ∈ ts, PyData.strOk t = true) → PyData.strOk (textFrom k acc ts) = true
  | [], _, _, h, _ => h
  | t :: ts, k, acc, h, ht => by
    refine ok_text (ts := ts) ?_ fun u m => ht u (List.mem_cons_of_mem _ m)
    rw [ok_app, ok_app, h, ht t List.mem_cons_self]
    simp only [Bool.true_and, Bool.and_true]
    split <;> exact ok_of _
theorem ok_join {sep : Str} (hs : PyData.strOk sep = true) : ∀ {ts : List Str}, (∀ t ∈ ts, PyData.strOk t = true) → PyData.strOk (Str.join sep ts) = true
  | [], _ => by
    show PyData.strOk Str.empty = true
    decide +kernel
  | [t], h => h t List.mem_cons_self
  | t :: u :: ts, h => by
    rw [Str.join, ok_app, ok_app, h t List.mem_cons_self, hs, ok_join hs fun x m => h x (List.mem_cons_of_mem _ m)]
    all_goals first | rfl | (intro z; cases z)
section
variable {K : PySem.W.Frag} {H H' : Hp} {a : Addr} {v : V} {d : PyData} {vs : List V} {ds : List PyData}
theorem Atm.dp (h : Atm v d) : Dp K H v d := by cases h <;> constructor
theorem Atm.kd (h : Atm v d) : ∃ n, Kd H v n ∧ n ≠ "tuple" := by
  cases h with
  | non => exact ⟨_, .non, by decide⟩
  | bl b => exact ⟨_, .bl b, by decide⟩
  | int i _ => exact ⟨_, .int i, by decide⟩
  | emp => exact ⟨_, .str "", by decide⟩
theorem log_small {n : Nat} (h : n < 2 ^ 1000) : n.log2 < 1000 := by
  by_cases z : n = 0
  · subst z; decide
  · exact (Nat.log2_lt z).mpr h
theorem Atm.show (h : Atm v d) : d.showable = true ∧ d.shown.length ≤ 2000 ∧ PyData.strOk d.shown = true := by
  cases h with
  | non => exact ⟨rfl, by decide, ok_of _⟩
  | bl b => cases b <;> exact ⟨rfl, by decide, ok_of _⟩
  | int i hi =>
    have l := log_small hi
    refine ⟨decide_eq_true (by omega), ?_, ok_of _⟩
    have := int_text_length_le (k := 1000) (by decide) l
    show (Str.ofString (toString i)).length ≤ 2000
    rw [PySem.ofString_length]
    omega
  | emp => exact ⟨rfl, by decide, by decide +kernel⟩
theorem Atm.lay (h : Atm v d) : PyData.canLay0 d = true ∧ d.depth = 0 := by
  cases h with
  | emp => exact ⟨by rw [PyData.canLay0]; exact ok_of _, by simp [PyData.depth]⟩
  | _ => exact ⟨by simp [PyData.canLay0], by simp [PyData.depth]⟩
theorem atms_dp (h : Paired Atm vs ds) : DpAll K H vs ds := by
  induction h with
  | nil => exact .nil
  | cons h t ih => exact .cons h.dp ih
theorem atms_lay (h : Paired Atm vs ds) : PyData.canLayAll0 ds = true ∧ PyData.depthAll ds = 0 := by
  induction h with
  | nil => exact ⟨by simp [PyData.canLayAll0], by simp [PyData.depthAll]⟩
  | cons h t ih => exact ⟨by simp [PyData.canLayAll0, h.lay.1, ih.1], by simp [PyData.depthAll, h.lay.2, ih.2]⟩
theorem atms_show (h : Paired Atm vs ds) : PyData.showableAll ds = true ∧ ((PyData.shownAll ds).map (·.length)).sum ≤ 2000 * ds.length ∧ (PyData.shownAll ds).length = ds.length ∧ ∀ t ∈ PyData.shownAll ds, PyData.strOk t = true := by
  induction h with
  | nil => exact ⟨rfl, by simp [PyData.shownAll], rfl, fun t m => by cases m⟩
  | cons h t ih =>
    obtain ⟨i1, i2, i3, i4⟩ := ih
    obtain ⟨h1, h2, h3⟩ := h.show
    refine ⟨by rw [PyData.showableAll, h1, i1]; rfl, ?_, by rw [PyData.shownAll, List.length_cons, i3, List.length_cons], fun t m => ?_⟩
    · rw [PyData.shownAll, List.map_cons, List.sum_cons, List.length_cons]
      omega
    · rw [PyData.shownAll] at m
      rcases List.mem_cons.mp m with rfl | m
      · exact h3
      · exact i4 t m
theorem Atm.dsp (h : Atm v d) : Dsp K H v := by
  obtain ⟨s1, s2, s3⟩ := h.show
  refine ⟨d, .dp h.dp ?_, s1, Nat.le_trans s2 (by decide), s3⟩
  unfold SeqAt.shaped
  rw [h.lay.1, h.lay.2]
  rfl
theorem dd_l (h : SqL K H a vs) (p : Paired Atm vs ds) (hl : vs.length ≤ 1000) : Dd K H (.ref a) (.list ds) ∧ Shows (.list ds) := by
  obtain ⟨s1, s2, s3, s4⟩ := atms_show p
  have ll := Paired.length p
  refine ⟨.dp (.lst h (atms_dp p)) ?_, s1, ?_, ?_⟩
  · unfold SeqAt.shaped
    simp [PyData.canLay0, PyData.depth, (atms_lay p).1, (atms_lay p).2]
  · have := listText_len_le (PyData.shownAll ds)
    show (listText (PyData.shownAll ds)).length ≤ sizeLine
    rw [sizeLine_eq]
    omega
  · show PyData.strOk (textFrom 0 "[" (PyData.shownAll ds) ++ "]") = true
    rw [ok_app, ok_text (ok_of _) s4]
    exact ok_of _
theorem dsp_l (h : SqL K H a vs) (p : Paired Atm vs ds) (hl : vs.length ≤ 1000) : Dsp K H (.ref a) := ⟨_, dd_l h p hl⟩
theorem dsp_t (h : SqT K H a vs) (p : Paired Atm vs ds) (hl : vs.length ≤ 1000) : Dsp K H (.ref a) := by
  obtain ⟨s1, s2, s3, s4⟩ := atms_show p
  have ll := Paired.length p
  refine ⟨.tuple ds, .dp (.tup h (atms_dp p)) ?_, s1, ?_, ?_⟩
  · unfold SeqAt.shaped
    simp [PyData.canLay0, PyData.depth, (atms_lay p).1, (atms_lay p).2]
  · have := tupleText_len_le (PyData.shownAll ds)
    show (tupleText (PyData.shownAll ds)).length ≤ sizeLine
    rw [sizeLine_eq]
    omega
  · show PyData.strOk (("(" : Str) ++ Str.join ", " (PyData.shownAll ds) ++ _) = true
    rw [ok_app, ok_app, ok_join (ok_of _) s4]
    have o1 : PyData.strOk ("(" : Str) = true := ok_of _
    rw [o1]
    simp only [Bool.true_and]
    split <;> exact ok_of _
theorem dsp_d (h : H a = some (.dK [])) : Dsp K H (.ref a) := ⟨_, .emp h, rfl, by decide, by decide +kernel⟩
theorem Dsp.upN (e : ExtN H H') (h : Dsp K H v) : Dsp K H' v := let ⟨d, x, s⟩ := h; ⟨d, x.upN e, s⟩
theorem Dsp.up (e : Ex H H') (h : Dsp K H v) : Dsp K H' v := h.upN (ExtN.ex e)
theorem atms_kd (p : Paired Atm vs ds) : ∀ x ∈ vs, ∃ n, Kd H x n := by
  induction p with
  | nil => intro x m; cases m
  | cons h t ih =>
    intro x m
    rcases List.mem_cons.mp m with rfl | m
    · obtain ⟨n, k, _⟩ := h.kd (H := H)
      exact ⟨n, k⟩
    · exact ih x m
theorem atm_small {i : Int} (h0 : -100000000000000 ≤ i) (h1 : i ≤ 100000000000000) : Atm (.int i) (.int i) := .int i (Nat.lt_of_lt_of_le (show i.natAbs < 1000000000000000 by omega) (by decide))
/-- lists of lists of texts: equal -/
def rowD (t s : Str) : PyData := .list [.str t, .str s]
theorem dp_row {t s : Str} (h : H a = some (.lst [.str t, .str s])) : Dp K H (.ref a) (rowD t s) := .lst (SqL.of h) (.cons (.str _) (.cons (.str _) .nil))
theorem ne_row {b : Addr} {t s : Str} {Q : VK} (k1 : PyData.strOk t = true) (k2 : PyData.strOk s = true) (h : H a = some (.lst [.str t, .str s])) (h' : H b = some (.lst [.str t, .str s])) (q : Q (.bl false) H) : rNeD K (.ref a) (.ref b) H Q :=
  have sh : SeqAt.shaped (rowD t s) = true := by simp [rowD, SeqAt.shaped, PyData.canLay0, PyData.canLayAll0, PyData.depth, PyData.depthAll, k1, k2]
  ⟨_, _, dp_row h, dp_row h', sh, sh, by rw [SeqAt.eqv_refl _ (SeqAt.canLay_of_shaped sh)]; exact q⟩
theorem rows_lay (n : Nat) (t s : Str) (k1 : PyData.strOk t = true) (k2 : PyData.strOk s = true) : PyData.canLayAll0 (List.replicate n (rowD t s)) = true ∧ PyData.depthAll (List.replicate n (rowD t s)) ≤ 1 := by
  induction n with
  | zero => simp [PyData.canLayAll0, PyData.depthAll]
  | succ n ih =>
    rw [List.replicate_succ]
    exact ⟨by rw [PyData.canLayAll0, ih.1, Bool.and_true, rowD, PyData.canLay0]; simp [PyData.canLayAll0, PyData.canLay0, k1, k2], by rw [PyData.depthAll]; exact Nat.max_le.mpr ⟨by simp [rowD, PyData.depth, PyData.depthAll], ih.2⟩⟩
theorem dps_rows {t s : Str} : ∀ {as : List Addr}, (∀ b ∈ as, H b = some (.lst [.str t, .str s])) → DpAll K H (as.map V.ref) (List.replicate as.length (rowD t s))
  | [], _ => .nil
  | b :: as, h => .cons (dp_row (h b (by simp))) (dps_rows fun c m => h c (List.mem_cons_of_mem _ m))
theorem ne_rows {b : Addr} {t s : Str} {as bs : List Addr} {Q : VK} (k1 : PyData.strOk t = true) (k2 : PyData.strOk s = true) (h : H a = some (.lst (as.map V.ref))) (h' : H b = some (.lst (bs.map V.ref))) (l : as.length = bs.length) (ha : ∀ c ∈ as, H c = some (.lst [.str t, .str s])) (hb : ∀ c ∈ bs, H c = some (.lst [.str t, .str s]))
    (q : Q (.bl false) H) : rNeD K (.ref a) (.ref b) H Q := by
  have sh : SeqAt.shaped (.list (List.replicate as.length (rowD t s))) = true := by
    unfold SeqAt.shaped
    rw [PyData.canLay0, PyData.depth, (rows_lay _ t s k1 k2).1, decide_eq_true (by have := (rows_lay as.length t s k1 k2).2; omega)]
    rfl
  refine ⟨_, _, .lst (SqL.of h) (dps_rows ha), .lst (SqL.of h') (dps_rows hb), sh, by rw [← l]; exact sh, ?_⟩
  rw [← l, SeqAt.eqv_refl _ (SeqAt.canLay_of_shaped sh)]
  exact q
theorem rep3 {l : Addr} {xs : List V} {Q : VK} (h : H l = some (.lst xs)) (hl : xs.length ≤ 1000) (q : ∀ p, H p = none → Q (.ref p) (upd H p (.lst (xs ++ (xs ++ xs))))) : rRep (.ref l) (.int 3) H Q := by
  refine ⟨l, 3, xs, rfl, rfl, h, by decide, by decide, ?_, fun p n => ?_⟩
  · exact Nat.le_trans (by show xs.length * 3 ≤ 100000; omega) line_ge
  · have e : (List.replicate (3 : Int).toNat xs).flatten = xs ++ (xs ++ xs) := by
      show xs ++ (xs ++ (xs ++ [])) = _
      rw [List.append_nil]
    first
      | (rw [e]; exact q p n)
      | exact q p n
end
end Lw
/-! Rectangles a great deal larger: the points that both have. -/
namespace Lw
open PySem PySem.Spec PyProof.Rows L2 Evl LamX
/-- tuple(xs), told of K -/
def tupR (K : PySem.W.Frag) : List V → Hp → VK → Prop := fun xs H Q => ∃ p ys, xs = [.ref p] ∧ ((SqL K H p ys ∧ ∀ l, H l = none → Q (.ref l) (upd H l (.tup ys))) ∨ (SqT K H p ys ∧ Q (.ref p) H))
theorem call_tupK {X : Cx} : CallR X (.type "tuple") (tupR X.K) := call_tuple_of
theorem ints_of_list {f : Int → Int} {ks : List Int} {ys : List V} (hl : ys.length = ks.length) (h : ∀ (i : Nat) y, ys[i]? = some y → ∃ k, ks[i]? = some k ∧ y = .int (f k)) : ys = (ks.map f).map V.int := by
  refine List.ext_getElem? fun i => ?_
  rw [List.getElem?_map, List.getElem?_map]
  by_cases c : i < ys.length
  · obtain ⟨k, e1, e2⟩ := h i ys[i] (List.getElem?_eq_getElem c)
    rw [List.getElem?_eq_getElem c, e1, e2]
    rfl
  · rw [List.getElem?_eq_none (by omega), List.getElem?_eq_none (by omega)]
    rfl
theorem get_ints {ns : List Int} {i : Nat} {x : V} (h : (ns.map V.int)[i]? = some x) : ∃ k, ns[i]? = some k ∧ x = .int k := by
  rw [List.getElem?_map] at h
  cases hz : ns[i]? with
  | none => rw [hz] at h; cases h
  | some k => rw [hz] at h; exact ⟨k, rfl, (Option.some.inj h).symm⟩
theorem ovl_comm (a b : Box) : ovl a b = ovl b a := by
  unfold ovl
  rw [Int.max_comm a.1, Int.max_comm a.2.1, Int.min_comm (a.1 + a.2.2.1), Int.min_comm (a.2.1 + a.2.2.2)]
def big (b : Box) : Box := (100000000000 * b.1, 100000000000 * b.2.1, 100000000000 * b.2.2.1, 100000000000 * b.2.2.2)
theorem ovl_big (a b : Box) : ovl (big a) (big b) = (ovl a b).map big := by
  obtain ⟨a1, a2, a3, a4⟩ := a
  obtain ⟨b1, b2, b3, b4⟩ := b
  unfold ovl big
  dsimp only
  by_cases c : min (a1 + a3) (b1 + b3) ≤ max a1 b1 ∨ min (a2 + a4) (b2 + b4) ≤ max a2 b2
  · rw [if_pos c, if_pos (by omega)]
    rfl
  · rw [if_neg c, if_neg (by omega)]
    show some _ = some _
    refine congrArg some ?_
    refine Prod.ext (by dsimp only; omega) (Prod.ext (by dsimp only; omega) (Prod.ext (by dsimp only; omega) (by dsimp only; omega)))
theorem SmallBox.big {b : Box} (h : SmallBox b) : GoodBox (big b) := by
  obtain ⟨⟨a1, a2⟩, ⟨b1, b2⟩, ⟨c1, c2⟩, d1, d2⟩ := h
  unfold Lw.big
  exact ⟨⟨by dsimp only; omega, by dsimp only; omega⟩, ⟨by dsimp only; omega, by dsimp only; omega⟩, ⟨by dsimp only; omega, by dsimp only; omega⟩, by dsimp only; omega, by dsimp only; omega⟩
theorem OvAt.up {H H' : Hp} {v : V} {o : Option Box} (e : Ex H H') (h : OvAt H v o) : OvAt H' v o := by
  cases o with
  | none => exact h
  | some c => obtain ⟨t, a, b⟩ := h; exact ⟨t, a, e _ _ b⟩
theorem ne_ov {K : PySem.W.Frag} {H : Hp} {v u : V} {o : Option Box} {Q : VK} (h : OvAt H v o) (h' : OvAt H u o) (q : Q (.bl false) H) : rNeD K v u H Q := by
  cases o with
  | none =>
    obtain rfl : v = .non := h
    obtain rfl : u = .non := h'
    exact ⟨_, _, .non, .non, rfl, rfl, q⟩
  | some c =>
    obtain ⟨t, rfl, a⟩ := h
    obtain ⟨t', rfl, a'⟩ := h'
    have dp : ∀ {p}, BoxAt H p c → Dp K H (.ref p) (.tuple [.int c.1, .int c.2.1, .int c.2.2.1, .int c.2.2.2]) := fun {p} z => .tup (SqT.of z) (.cons (.int _) (.cons (.int _) (.cons (.int _) (.cons (.int _) .nil))))
    have sh : SeqAt.shaped (.tuple [.int c.1, .int c.2.1, .int c.2.2.1, .int c.2.2.2]) = true := by simp [SeqAt.shaped, PyData.canLay0, PyData.canLayAll0, PyData.depth, PyData.depthAll]
    exact ⟨_, _, dp a, dp a', sh, sh, by rw [SeqAt.eqv_refl _ (SeqAt.canLay_of_shaped sh)]; exact q⟩
end Lw
/-! Data of some depth whose text can be told. -/
namespace Lw
open PySem PySem.Spec PyProof.Rows L2 Evl LamX
/-! ### data -/
def Nice (B D : Nat) (d : PyData) : Prop := d.showable = true ∧ d.shown.length ≤ B ∧ PyData.strOk d.shown = true ∧ PyData.canLay0 d = true ∧ d.depth ≤ D
section
variable {K : PySem.W.Frag} {H H' : Hp} {a b : Addr} {v : V} {d : PyData} {vs xs ys : List V} {ds : List PyData} {B D n : Nat}
theorem Atm.nice (h : Atm v d) : Nice 2000 0 d := ⟨h.show.1, h.show.2.1, h.show.2.2, h.lay.1, Nat.le_of_eq h.lay.2⟩
theorem Nice.mono {B' D' : Nat} (h : Nice B D d) (h1 : B ≤ B') (h2 : D ≤ D') : Nice B' D' d := ⟨h.1, Nat.le_trans h.2.1 h1, h.2.2.1, h.2.2.2.1, Nat.le_trans h.2.2.2.2 h2⟩
theorem nice_all (h : ∀ x ∈ ds, Nice B D x) : PyData.showableAll ds = true ∧ ((PyData.shownAll ds).map (·.length)).sum ≤ B * ds.length ∧ (PyData.shownAll ds).length = ds.length ∧ (∀ t ∈ PyData.shownAll ds, PyData.strOk t = true) ∧ PyData.canLayAll0 ds = true ∧ PyData.depthAll ds ≤ D := by
  induction ds with
  | nil => exact ⟨rfl, by simp [PyData.shownAll], rfl, (fun t m => by cases m), by simp [PyData.canLayAll0], by simp [PyData.depthAll]⟩
  | cons d ds ih =>
    obtain ⟨i1, i2, i3, i4, i5, i6⟩ := ih fun x m => h x (List.mem_cons_of_mem _ m)
    obtain ⟨h1, h2, h3, h4, h5⟩ := h d List.mem_cons_self
    refine ⟨by rw [PyData.showableAll, h1, i1]; rfl, ?_, by rw [PyData.shownAll, List.length_cons, i3, List.length_cons], (fun t m => ?_), by rw [PyData.canLayAll0, h4, i5]; rfl, by rw [PyData.depthAll]; exact Nat.max_le.mpr ⟨h5, i6⟩⟩
    · rw [PyData.shownAll, List.map_cons, List.sum_cons, List.length_cons, Nat.mul_succ]
      omega
    · rw [PyData.shownAll] at m
      rcases List.mem_cons.mp m with rfl | m
      · exact h3
      · exact i4 t m
theorem nice_tup (h : ∀ x ∈ ds, Nice B D x) (hl : ds.length ≤ n) : Nice (B * n + 2 * n + 3) (D + 1) (.tuple ds) := by
  obtain ⟨h1, h2, h3, h4, h5, h6⟩ := nice_all h
  have m : B * ds.length ≤ B * n := Nat.mul_le_mul_left _ hl
  refine ⟨h1, ?_, ?_, h5, by rw [PyData.depth]; omega⟩
  · have := tupleText_len_le (PyData.shownAll ds)
    show (tupleText (PyData.shownAll ds)).length ≤ _
    omega
  · show PyData.strOk (("(" : Str) ++ Str.join ", " (PyData.shownAll ds) ++ _) = true
    have o1 : PyData.strOk ("(" : Str) = true := ok_of _
    rw [ok_app, ok_app, ok_join (ok_of _) h4, o1]
    simp only [Bool.true_and]
    split <;> exact ok_of _
theorem nice_lst (h : ∀ x ∈ ds, Nice B D x) (hl : ds.length ≤ n) : Nice (B * n + 2 * n + 3) (D + 1) (.list ds) := by
  obtain ⟨h1, h2, h3, h4, h5, h6⟩ := nice_all h
  have m : B * ds.length ≤ B * n := Nat.mul_le_mul_left _ hl
  refine ⟨h1, ?_, ?_, h5, by rw [PyData.depth]; omega⟩
  · have := listText_len_le (PyData.shownAll ds)
    show (listText (PyData.shownAll ds)).length ≤ _
    omega
  · show PyData.strOk (textFrom 0 "[" (PyData.shownAll ds) ++ "]") = true
    rw [ok_app, ok_text (ok_of _) h4]
    exact ok_of _
theorem dsp_nice (h : Dp K H v d) (k : Nice 16000000 60 d) : Dsp K H v := by
  obtain ⟨h1, h2, h3, h4, h5⟩ := k
  refine ⟨d, .dp h ?_, h1, by rw [sizeLine_eq]; omega, h3⟩
  unfold SeqAt.shaped
  rw [h4, decide_eq_true (by omega)]
  rfl
theorem dd_nice (h : Dp K H v d) (k : Nice 16000000 60 d) : Dd K H v d ∧ Shows d := by
  obtain ⟨h1, h2, h3, h4, h5⟩ := k
  refine ⟨.dp h ?_, h1, by rw [sizeLine_eq]; omega, h3⟩
  unfold SeqAt.shaped
  rw [h4, decide_eq_true (by omega)]
  rfl
end
end Lw
/-! Own classes: instances made with keyword-only parameters, their methods (by position and by name), instances that are called, own ==, !=, * and ~. -/
namespace Lw
open PySem PySem.Spec PyProof.Rows L2 Evl
/-! ### words -/
structure OwnC (K : PySem.W.Frag) (mg : Str → Option Value) (x : Str) (C : Addr) (fld : Str) : Prop where
  nm : mg x = some (.ref C)
  cls : Cls K C
  no : NoAttr K C fld
  kc : PySem.W.findIn K (.ref C) "__class__" = some (some (.builtin "object.__class__"))
  kg : PySem.W.specialIn K (.builtin "object.__class__") "__get__" = some (some (.builtin "getset_descriptor.__get__"))
  kt : PySem.W.takesIn K (.builtin "object.__class__") = some true
  ko : PySem.W.mroIn K C (.type "object") = some true
  ii : PySem.W.kitOne K (.ref C) (.ref C) = some true
  it : PySem.W.kitOne K (.type "tuple") (.ref C) = some false
  sf : PySem.W.selfFirst K C = true
  nf : PySem.W.notFirst K C (.type "tuple") = true
  ne : PySem.W.findIn K (.ref C) "__ne__" = some (some (.builtin "object.__ne__"))
structure MethC (K : PySem.W.Frag) (C : Addr) (m q : Str) (st : Stmt) : Prop where
  ex : ∃ (f : Addr) (fd : FuncData), Meth K C m f ∧ PySem.W.fnIn K f = true ∧ Fun K m q st f fd
structure InitC (K : PySem.W.Frag) (C : Addr) (q : Str) (st : Stmt) (kws : List (Str × V)) : Prop where
  ex : ∃ (f : Addr) (fd : FuncData), Mk K C f ∧ FunD K "__init__" q (defArgs st) (defBody st) (defScope st) [] kws f fd
section
variable {K : PySem.W.Frag} {mg : Str → Option Value} {h : Heap} {C f D : Addr} {x fld m q : Str} {st : Stmt} {oc : Value} {od an : Option Addr} {osl : Array (Option Value)} {kV doc pm cdv ct : Value}
theorem ownC_mk (X : K.In h) (G : h.Ns mainGlobals mg) (a : PySem.W.nsIn K mainGlobals x = some (some (.ref C))) (pg : PySem.W.plainGet K C Str.empty = true) (hd : PySem.W.hasDictIn K C = true) (po : PySem.W.plainOver K C = true)
    (sa : PySem.W.findIn K (.ref C) "__setattr__" = some (some (.builtin "object.__setattr__"))) (no : PySem.W.findIn K (.ref C) fld = some none) (kc : PySem.W.findIn K (.ref C) "__class__" = some (some (.builtin "object.__class__")))
    (kg : PySem.W.specialIn K (.builtin "object.__class__") "__get__" = some (some (.builtin "getset_descriptor.__get__"))) (kt : PySem.W.takesIn K (.builtin "object.__class__") = some true) (ko : PySem.W.mroIn K C (.type "object") = some true)
    (ii : PySem.W.kitOne K (.ref C) (.ref C) = some true) (it : PySem.W.kitOne K (.type "tuple") (.ref C) = some false) (sf : PySem.W.selfFirst K C = true) (nf : PySem.W.notFirst K C (.type "tuple") = true)
    (ne : PySem.W.findIn K (.ref C) "__ne__" = some (some (.builtin "object.__ne__"))) : OwnC K mg x C fld := ⟨PySem.W.mg_of X G a, ⟨pg, hd, po, sa⟩, no, kc, kg, kt, ko, ii, it, sf, nf, ne⟩
theorem methC_mk (at_ : PySem.W.findIn K (.ref C) m = some (some (.ref f))) (fn : PySem.W.isFn K (.ref f) = true) (fi : PySem.W.fnIn K f = true)
    (l : K.lookup f = some ⟨oc, od, .func (PySem.W.fnOf m q (defArgs st) (defBody st) (defScope st) .none kV doc pm an cdv ct), osl⟩) (c : PySem.W.codeIn K cdv q = true) (kp : PySem.W.keepIn K (.ref f) = true) : MethC K C m q st :=
  ⟨f, _, ⟨at_, fn, kp⟩, fi, fun_mk l c kp⟩
theorem initC_mk {p1 p2 : Str} {b1 b2 : Bool} (mi : PySem.W.makesIn K C = true) (at_ : PySem.W.findIn K (.ref C) "__init__" = some (some (.ref f))) (fn : PySem.W.isFn K (.ref f) = true) (kC : PySem.W.keepIn K (.ref C) = true)
    (l : K.lookup f = some ⟨oc, od, .func (PySem.W.fnOf "__init__" q (defArgs st) (defBody st) (defScope st) .none (.ref D) doc pm an cdv ct), osl⟩) (c : PySem.W.codeIn K cdv q = true) (kp : PySem.W.keepIn K (.ref f) = true)
    (k1 : PySem.W.nsIn K D p1 = some (some (.bool b1))) (k2 : PySem.W.nsIn K D p2 = some (some (.bool b2))) : InitC K C q st [(p1, .bl b1), (p2, .bl b2)] := by
  refine ⟨f, _, ⟨mi, at_, fn, kC⟩, ⟨⟨oc, od, .none, .ref D, doc, pm, an, cdv, ct, osl, rfl, l, c, .inl ⟨rfl, rfl⟩, .inr ⟨D, rfl, fun z m => ?_⟩⟩, kp⟩⟩
  rcases List.mem_cons.mp m with rfl | m
  · exact ⟨_, k1, rfl⟩
  · obtain rfl := List.mem_singleton.mp m
    exact ⟨_, k2, rfl⟩
end
/-! ### promises of methods -/
structure DefM (P : Program) (w : World) (K : PySem.W.Frag) (mg : Str → Option Value) (base : Heap) (CX : CXT) (k : Nat) (C : Addr) (m q : Str) (st : Stmt) (ps : List Str) (sp : Sp) : Prop where
  ex : ∃ (f : Addr) (fd : FuncData), Meth K C m f ∧ PySem.W.fnIn K f = true ∧ Fun K m q st f fd ∧ FnOk P w K mg base CX k f fd ps sp
def BndM (m q : Str) (st : Stmt) (ps : List Str) : Prop := ∀ (kV doc pm : Value) (an : Option Addr) (cdv ct : Value) (us : List Value), us.length = ps.length →
  bindArgs (PySem.W.fnOf m q (defArgs st) (defBody st) (defScope st) .none kV doc pm an cdv ct) ⟨us, []⟩ = pure (ps.zip us)
def BndMK (m q : Str) (st : Stmt) (ps : List Str) (n : Nat) (ks : List Str) (g : {α : Type} → List α → List α → List α) : Prop :=
  ∀ (kV doc pm : Value) (an : Option Addr) (cdv ct : Value) (us ws : List Value), us.length = n → ws.length = ks.length →
  bindArgs (PySem.W.fnOf m q (defArgs st) (defBody st) (defScope st) .none kV doc pm an cdv ct) ⟨us, ks.zip ws⟩ = pure (ps.zip (g us ws))
section
variable {P : Program} {w : World} {K : PySem.W.Frag} {mg : Str → Option Value} {base : Heap} {k : Nat} {C : Addr} {m q : Str} {st : Stmt} {ps N : List Str} {sp : Sp} {CX : CXT}
theorem defM_of (D : MethC K C m q st) (S : FnScope N ps (defScope st)) (len : ∀ vs H Q E, sp vs H Q E → vs.length = ps.length)
    (hbody : ∀ (f : Addr) (cdv : Value) (A : Around) (outer : List Env) (s : Shared) (H : Hp) (vs : List V) (Q : VK) (E : XK), Room k (A.deeper (envOfC q (defScope st) s.heap.objs.size f cdv)) → sp vs H Q E →
      ∃ t, PSs (cxOf CX0 P w K mg base N q (defScope st) f cdv A outer s H E).nox (defBody st) t ∧ t { nx := fun _ H' => Q .non H', rt := Q } (start N vs) H) : DefM P w K mg base CX0 (k + 1) C m q st ps sp := by
  obtain ⟨f, fd, M, fi, F⟩ := D.ex
  exact ⟨f, fd, M, fi, F, F.ok S len (hbody f)⟩
theorem defMX_of (D : MethC K C m q st) (S : FnScope N ps (defScope st)) (len : ∀ vs H Q E, sp vs H Q E → vs.length = ps.length)
    (hbody : ∀ (f : Addr) (cdv : Value) (A : Around) (outer : List Env) (s : Shared) (H : Hp) (vs : List V) (Q : VK) (E : XK), Room k (A.deeper (envOfC q (defScope st) s.heap.objs.size f cdv)) → sp vs H Q E →
      ∃ t, PSs (cxOf (L2.CX P w) P w K mg base N q (defScope st) f cdv A outer s H E) (defBody st) t ∧ t { nx := fun _ H' => Q .non H', rt := Q } (start N vs) H) : DefM P w K mg base (L2.CX P w) (k + 1) C m q st ps sp := by
  obtain ⟨f, fd, M, fi, F⟩ := D.ex
  exact ⟨f, fd, M, fi, F, F.okX S len (hbody f)⟩
end
/-- the promise of C(..): __init__'s -/
structure DefI (P : Program) (w : World) (K : PySem.W.Frag) (mg : Str → Option Value) (base : Heap) (CX : CXT) (k : Nat) (C : Addr) (q : Str) (st : Stmt) (kws : List (Str × V)) (ps : List Str) (sp : Sp) : Prop where
  ex : ∃ (f : Addr) (fd : FuncData), Mk K C f ∧ FunD K "__init__" q (defArgs st) (defBody st) (defScope st) [] kws f fd ∧ FnOk P w K mg base CX k f fd ps sp
theorem defI_of {P : Program} {w : World} {K : PySem.W.Frag} {mg : Str → Option Value} {base : Heap} {k : Nat} {C : Addr} {q : Str} {st : Stmt} {kws : List (Str × V)} {ps N : List Str} {sp : Sp} (D : InitC K C q st kws) (S : FnScope N ps (defScope st)) (len : ∀ vs H Q E, sp vs H Q E → vs.length = ps.length)
    (hbody : ∀ (f : Addr) (cdv : Value) (A : Around) (outer : List Env) (s : Shared) (H : Hp) (vs : List V) (Q : VK) (E : XK), Room k (A.deeper (envOfC q (defScope st) s.heap.objs.size f cdv)) → sp vs H Q E →
      ∃ t, PSs (cxOf CX0 P w K mg base N q (defScope st) f cdv A outer s H E).nox (defBody st) t ∧ t { nx := fun _ H' => Q .non H', rt := Q } (start N vs) H) : DefI P w K mg base CX0 (k + 1) C q st kws ps sp := by
  obtain ⟨f, fd, M, F⟩ := D.ex
  refine ⟨f, fd, M, F, F.ok S len fun cdv A outer s H vs Q E hr h => ?_⟩
  obtain ⟨t, a, b⟩ := hbody f cdv A outer s H vs Q E hr h
  exact ⟨t, a.nox, b⟩
theorem defIX_of {P : Program} {w : World} {K : PySem.W.Frag} {mg : Str → Option Value} {base : Heap} {k : Nat} {C : Addr} {q : Str} {st : Stmt} {kws : List (Str × V)} {ps N : List Str} {sp : Sp} (D : InitC K C q st kws) (S : FnScope N ps (defScope st)) (len : ∀ vs H Q E, sp vs H Q E → vs.length = ps.length)
    (hbody : ∀ (f : Addr) (cdv : Value) (A : Around) (outer : List Env) (s : Shared) (H : Hp) (vs : List V) (Q : VK) (E : XK), Room k (A.deeper (envOfC q (defScope st) s.heap.objs.size f cdv)) → sp vs H Q E →
      ∃ t, PSs (cxOf (L2.CX P w) P w K mg base N q (defScope st) f cdv A outer s H E) (defBody st) t ∧ t { nx := fun _ H' => Q .non H', rt := Q } (start N vs) H) : DefI P w K mg base (L2.CX P w) (k + 1) C q st kws ps sp := by
  obtain ⟨f, fd, M, F⟩ := D.ex
  exact ⟨f, fd, M, F, F.ok S len fun cdv A outer s H vs Q E hr h => hbody f cdv A outer s H vs Q E hr h⟩
/-- what C(e, .., k = v, ..) binds: n by position (self ahead), the names ks, the names ms lack -/
def BndI (q : Str) (st : Stmt) (ps : List Str) (n : Nat) (ks : List Str) (ms : List (Str × V)) (g : {α : Type} → List α → List α → List α → List α) : Prop :=
  ∀ (D : Addr) (doc pm : Value) (an : Option Addr) (cdv ct : Value) (us mv ws : List Value), us.length = n → mv.length = ms.length → ws.length = ks.length →
      KwChain D ((ms.map (·.1)).zip mv) (bindArgs (PySem.W.fnOf "__init__" q (defArgs st) (defBody st) (defScope st) .none (.ref D) doc pm an cdv ct) ⟨us, ks.zip ws⟩) (ps.zip (g us mv ws))
section
variable {X : Cx} {CX : CXT} {k j n : Nat} {C : Addr} {m q x : Str} {st : Stmt} {ps ks : List Str} {kws ms : List (Str × V)} {sp : Sp} {E : XK} {p apos pos : Pos} {o fe e : Expr} {es : List Expr} {kwe : List Keyword} {ta t tk tf : TE} {ts tks : TA}
theorem kbnI {f : Addr} {fd : FuncData} {g : {α : Type} → List α → List α → List α → List α} {K : PySem.W.Frag} (F : FunD K "__init__" q (defArgs st) (defBody st) (defScope st) [] kws f fd) (b : BndI q st ps n ks ms g) (hk : kws ≠ []) (hms : ∀ z ∈ ms, z ∈ kws)
    (hrel : ∀ {vs mz zs : List V} {us mv ws : List Value}, Vals vs us → Vals mz mv → Vals zs ws → Vals (g vs mz zs) (g us mv ws)) : ∃ mv : List Value, KBn K fd ps n ks (fun us ws => g us mv ws) (fun vs zs => g vs (ms.map (·.2)) zs) :=
  F.kbinds0 n ks ms g hk hms hrel b
theorem pe_mkI {g : {α : Type} → List α → List α → List α → List α} (d : DefI X.prog X.w X.K X.mg X.base CX k C q st kws ps sp) (b : BndI q st ps (n + 1) ks ms g)
    (hrel : ∀ {vs mz zs : List V} {us mv ws : List Value}, Vals vs us → Vals mz mv → Vals zs ws → Vals (g vs mz zs) (g us mv ws)) (hk : kws ≠ []) (hms : ∀ z ∈ ms, z ∈ kws)
    (hm : X.mg x = some (.ref C)) (hr : Room j X.A) (hj : k + 1 ≤ j) (hg : Gl X x) (hx : Passes CX X E) (ha : PA X (e :: es) ts) (hkw : PK X kwe tks)
    (hall : (backToKw pos (keywordEach kwe X.env)).all (·.1.isSome) = true := by rfl) (hks : (backToKw pos (keywordEach kwe X.env)).filterMap (·.1) = ks := by rfl) (hdb : (x == ("__debug__" : Str)) = false := by decide)
    (he : starEach (e :: es) X.env = (false, eval e X.env) :: starEach es X.env := by rfl) (hpl : ((backTo pos (starEach (e :: es) X.env)).any (·.1) || (backToKw pos (keywordEach kwe X.env)).any (·.1.isNone)) = false := by rfl) :
    PE X (.Call (.Name x p) (e :: es) kwe pos) (tMakeK C n ks.length sp (fun vs zs => g vs (ms.map (·.2)) zs) E ts tks) := by
  obtain ⟨f, fd, M, F, o⟩ := d.ex
  obtain ⟨mv, kb⟩ := kbnI F b hk hms hrel
  exact pe_makeK M o (hr.mono hj) hg hm kb hx ha hkw hall hks hdb he hpl
theorem pe_mkI0 {g : {α : Type} → List α → List α → List α → List α} (d : DefI X.prog X.w X.K X.mg X.base CX k C q st kws ps sp) (b : BndI q st ps 1 ks ms g)
    (hrel : ∀ {vs mz zs : List V} {us mv ws : List Value}, Vals vs us → Vals mz mv → Vals zs ws → Vals (g vs mz zs) (g us mv ws)) (hk : kws ≠ []) (hms : ∀ z ∈ ms, z ∈ kws)
    (hm : X.mg x = some (.ref C)) (hr : Room j X.A) (hj : k + 1 ≤ j) (hg : Gl X x) (hx : Passes CX X E) (hkw : PK X kwe tks)
    (hall : (backToKw pos (keywordEach kwe X.env)).all (·.1.isSome) = true := by rfl) (hks : (backToKw pos (keywordEach kwe X.env)).filterMap (·.1) = ks := by rfl) (hdb : (x == ("__debug__" : Str)) = false := by decide)
    (hpl : ((backTo pos (starEach [] X.env)).any (·.1) || (backToKw pos (keywordEach kwe X.env)).any (·.1.isNone)) = false := by rfl) :
    PE X (.Call (.Name x p) [] kwe pos) (tMakeK C 0 ks.length sp (fun vs zs => g vs (ms.map (·.2)) zs) E tNil tks) := by
  obtain ⟨f, fd, M, F, o⟩ := d.ex
  obtain ⟨mv, kb⟩ := kbnI F b hk hms hrel
  exact pe_makeK0 M o (hr.mono hj) hg hm kb hx hkw hall hks hdb hpl
/-- o.m(e, ..) -/
theorem pe_om {pl : Sem Bool} (he : PE X o ta) (c : Cls X.K C) (d : DefM X.prog X.w X.K X.mg X.base CX k C m q st ps sp) (b : BndM m q st ps) (hr : Room j X.A) (hj : k ≤ j) (hx : Passes CX X E) (ha : PA X (e :: es) ts)
    (hst : starEach (e :: es) X.env = (false, eval e X.env) :: starEach es X.env := by rfl) (hpl : (backTo pos (starEach es X.env)).any (·.1) = false := by rfl)
    (ht : eval (.Call (.Attribute o m apos) (e :: es) [] pos) X.env = (do
      let ov ← eval o X.env
      standAt apos.atName
      let (f, first) ← holding [ov] (getMethod ov m pl)
      callWith pos f first (backTo pos (starEach (e :: es) X.env)) (backToKw pos (keywordEach [] X.env))) := by rfl) :
    PE X (.Call (.Attribute o m apos) (e :: es) [] pos) (tMeth C m sp [] E ta ts) := by
  obtain ⟨f, fd, M, _, F, ok⟩ := d.ex
  exact pe_meth he c M ok (hr.mono hj) (F.binds b) .nil hx ha hst hpl ht
def tMethK (C : Addr) (m : Str) (n : Nat) (sp : Sp) (gV : List V → List V → List V) (E : XK) (ta : TE) (tk : TA) : TE := fun σ H Q => ta σ H fun x H1 => ∃ a dx fs, x = .ref a ∧ H1 a = some (.ins C dx fs) ∧ fs.lookup m = none ∧
  tk σ H1 fun zs H2 => zs.length = n ∧ sp (gV [.ref a] zs) H2 Q E
/-- o.m(k = v, ..) -/
theorem pe_omk {pl : Sem Bool} {g : {α : Type} → List α → List α → List α} (he : PE X o ta) (c : Cls X.K C) (d : DefM X.prog X.w X.K X.mg X.base CX k C m q st ps sp) (b : BndMK m q st ps 1 ks g)
    (hrel : ∀ {vs zs : List V} {us ws : List Value}, Vals vs us → Vals zs ws → Vals (g vs zs) (g us ws)) (hr : Room j X.A) (hj : k ≤ j) (hx : Passes CX X E) (hkw : PK X kwe tks)
    (hall : (backToKw pos (keywordEach kwe X.env)).all (·.1.isSome) = true := by rfl) (hks : (backToKw pos (keywordEach kwe X.env)).filterMap (·.1) = ks := by rfl)
    (hpl : ((backTo pos (starEach [] X.env)).any (·.1) || (backToKw pos (keywordEach kwe X.env)).any (·.1.isNone)) = false := by rfl)
    (ht : eval (.Call (.Attribute o m apos) [] kwe pos) X.env = (do
      let ov ← eval o X.env
      standAt apos.atName
      let (f, first) ← holding [ov] (getMethod ov m pl)
      callWith pos f first (backTo pos (starEach [] X.env)) (backToKw pos (keywordEach kwe X.env))) := by rfl) :
    PE X (.Call (.Attribute o m apos) [] kwe pos) (tMethK C m ks.length sp (fun vs zs => g vs zs) E ta tks) := by
  obtain ⟨f, fd, M, _, F, ok⟩ := d.ex
  obtain ⟨oc, od, kV, doc, pm, an, cdv, ct, osl, rfl, lk, hcd⟩ := F.ex
  have kb : KBn X.K (PySem.W.fnOf m q (defArgs st) (defBody st) (defScope st) .none kV doc pm an cdv ct) ps 1 ks (fun us ws => g us ws) (fun vs zs => g vs zs) := ⟨fun s us ws _ h1 h2 => .of_eq (b kV doc pm an cdv ct us ws h1 h2), hrel⟩
  refine ⟨fun pins s σ H Q I h => ?_⟩
  refine PySem.W.methodCall_KW (pl := pl) (thn (he.run pins s σ H _ I h) fun u s1 ⟨x, H1, I1, rx, a, dx, fs, ex, ea, l, q⟩ => ?_) ht
  subst ex
  obtain rfl : u = Value.ref a := rx
  refine getmeth_ok I1 ea c M l ?_
  refine PySem.W.callWith_KW0 (first := [.ref a]) (h₀ := X.base) I1.ok.mod.kin M.kp hall ?_ hpl
  refine thn (hkw.run pos pins s1 σ H1 _ I1 q) fun ws s2 ⟨zs, H2, I2, rz, l1, q2⟩ => ⟨I2.kIn, ?_⟩
  rw [hks]
  exact run_fnN (us := [.ref a]) (vs := [.ref a]) ok (hr.mono hj) kb hx I2 (.cons rfl .nil) rz rfl l1 q2
/-- x(e, ..), x an instance -/
theorem pe_co (hf : PE X fe tf) (c : DefM X.prog X.w X.K X.mg X.base CX k C "__call__" q st ps sp) (b : BndM "__call__" q st ps) (hr : Room j X.A) (hj : k ≤ j) (hx : Passes CX X E) (ha : PA X (e :: es) ts)
    (ht : eval (.Call fe (e :: es) [] pos) X.env = (do callWith pos (← eval fe X.env) [] (backTo pos (starEach (e :: es) X.env)) (backToKw pos (keywordEach [] X.env))) := by rfl)
    (he : starEach (e :: es) X.env = (false, eval e X.env) :: starEach es X.env := by rfl) (hpl : (backTo pos (starEach es X.env)).any (·.1) = false := by rfl) :
    PE X (.Call fe (e :: es) [] pos) (fun σ H Q => tf σ H fun y H1 => ∃ a, y = V.ref a ∧ ts σ H1 fun vs H2 => (∃ dx fs, H2 a = some (.ins C dx fs)) ∧ sp (V.ref a :: vs) H2 Q E) := by
  obtain ⟨f, fd, M, fi, F, ok⟩ := c.ex
  refine ⟨fun pins s σ H Q I h => ?_⟩
  refine Call_ (thn (hf.run pins s σ H _ I h) fun u s1 ⟨y, H1, I1, ry, a, ey, q⟩ => ?_) ht
  subst ey
  obtain rfl : u = Value.ref a := ry
  refine StX.callO_with (thn (ha.run pos pins s1 σ H1 _ I1 q) fun us s2 ⟨vs, H2, I2, r, hi, q2⟩ => ?_) he hpl
  obtain ⟨ox, od, J, hd⟩ := StX.insC_at I2 (.inr hi)
  refine ⟨⟨C, ox, od, J, hd⟩, StX.run_callO (X := X) ⟨M.at_, M.fn, fi⟩ (ok.raw (F.binds b) .nil) (hr.mono hj) hx I2 (.inr hi) r ?_⟩
  rw [List.append_nil]
  exact q2
end
/-! ### operators -/
/-- the other side of an own ==: an instance of the class, or a tuple -/
def Other (C : Addr) (y : V) (H : Hp) : Prop := (∃ b dx fs, y = .ref b ∧ H b = some (.ins C dx fs)) ∨ ∃ b ys, y = .ref b ∧ H b = some (.tup ys)
theorem ne_bind (self : Value) : bindSpecial (.builtin "object.__ne__") self = pure (.builtin "object.__ne__", [self]) := PySem.F.cmp_object.ne.bind self
section
variable {X : Cx} {CX : CXT} {k j : Nat} {C : Addr} {q x fld : Str} {st : Stmt} {ps : List Str} {sp : Sp} {E : XK} {pins : List (Addr × Obj)} {σ : L2.St} {H : Hp} {s : Shared}
theorem other_ty {y : V} {u : Value} (I : Inv X pins σ H s) (o : OwnC X.K X.mg x C fld) (h : Other C y H) (r : RelV y u) : ∃ tb, PySem.W.Looks (model X.prog X.w) s.heap (typeOf u) tb ∧ PySem.W.notFirst X.K C tb = true := by
  rcases h with ⟨b, dx, fs, rfl, h⟩ | ⟨b, ys, rfl, h⟩
  · cases r
    obtain ⟨mA, J, _⟩ := ins_get I.hok h
    obtain ⟨od, J, _⟩ := J.look
    exact ⟨_, J.type, by simp [PySem.W.notFirst]⟩
  · cases r
    obtain ⟨_, _, _, p⟩ := (show ObjOk X.prog X.w H s.heap b (.tup ys) from I.hok b _ h)
    obtain ⟨o', h1, h2, _⟩ := p
    exact ⟨.type "tuple", (PySem.W.Looks.ld h1).andThen (by rw [h2]; exact .now), o.nf⟩
theorem op_eqI (d : DefM X.prog X.w X.K X.mg X.base CX k C "__eq__" q st ps sp) (b : BndM "__eq__" q st ps) (o : OwnC X.K X.mg x C fld) (hr : Room j X.A) (hj : k ≤ j) (hx : Passes CX X E) :
    OpR X (compareOp .Eq) (fun x y H Q => ∃ a dx fs, x = .ref a ∧ H a = some (.ins C dx fs) ∧ Other C y H ∧ sp [x, y] H (fun v H' => ∃ b, v = .bl b ∧ Q (.bl b) H') E) := by
  intro pins s σ H x y v u Q I rx ry hq
  obtain ⟨a, dx, fs, rfl, ha, hy, hs⟩ := hq
  cases rx
  obtain ⟨f, fd, M, fi, F, ok⟩ := d.ex
  obtain ⟨tb, t1, t2⟩ := other_ty I o hy ry
  obtain ⟨mA, J, _⟩ := ins_get I.hok ha
  obtain ⟨od, J, _⟩ := J.look
  obtain ⟨mm, hF⟩ := I.fr
  show wpAny (model X.prog X.w) X.A (richCompare .Eq (.ref a) u) (EP X pins σ Q) X.xe s
  refine PySem.W.cmp_K (op := .Eq) (tb := tb) hr.units0 hF I.ok.mod.kin J t1 t2 M.at_ M.fn ?_
  refine wpAny_mono (run_fn (us := [.ref a, u]) (vs := [.ref a, y]) ok (hr.mono hj) (F.binds b) .nil hx I (.cons rfl (.cons ry .nil)) hs) (fun z s' hz => ?_) fun _ _ e => e
  obtain ⟨w', H', I', rw', bb, rfl, qq⟩ := hz
  cases rw'
  exact ⟨.bl bb, H', I', rfl, qq⟩
theorem op_mulI (d : DefM X.prog X.w X.K X.mg X.base CX k C "__mul__" q st ps sp) (b : BndM "__mul__" q st ps) (o : OwnC X.K X.mg x C fld) (hr : Room j X.A) (hj : k ≤ j) (hx : Passes CX X E) :
    OpR X (binaryOp .Mult) (fun x y H Q => ∃ a dx fs b dy gs, x = .ref a ∧ H a = some (.ins C dx fs) ∧ y = .ref b ∧ H b = some (.ins C dy gs) ∧ sp [x, y] H (fun v H' => ∃ b, v = .ref b ∧ Q (.ref b) H') E) := by
  intro pins s σ H x y v u Q I rx ry hq
  obtain ⟨a, dx, fs, c, dy, gs, rfl, ha, rfl, hc, hs⟩ := hq
  cases rx
  cases ry
  obtain ⟨f, fd, M, fi, F, ok⟩ := d.ex
  obtain ⟨mA, J, _⟩ := ins_get I.hok ha
  obtain ⟨od, J, _⟩ := J.look
  obtain ⟨mB, J2, _⟩ := ins_get I.hok hc
  obtain ⟨od2, J2, _⟩ := J2.look
  obtain ⟨mm, hF⟩ := I.fr
  refine PySem.W.binop_K (op := .Mult) hF I.ok.mod.kin J J2.type o.sf M.at_ M.fn ?_
  refine wpAny_mono (run_fn (us := [.ref a, .ref c]) (vs := [.ref a, .ref c]) ok (hr.mono hj) (F.binds b) .nil hx I (.cons rfl (.cons rfl .nil)) hs) (fun z s' hz => ?_) fun _ _ e => e
  obtain ⟨w', H', I', rw', bb, rfl, qq⟩ := hz
  cases rw'
  exact ⟨.ref bb, H', I', rfl, qq⟩
theorem un_invI (d : DefM X.prog X.w X.K X.mg X.base CX k C "__invert__" q st ps sp) (b : BndM "__invert__" q st ps) (hr : Room j X.A) (hj : k ≤ j) (hx : Passes CX X E) :
    UnR X (unaryOp .Invert) (fun x H Q => ∃ a dx fs, x = .ref a ∧ H a = some (.ins C dx fs) ∧ sp [x] H Q E) := by
  intro pins s σ H x v Q I rx hq
  obtain ⟨a, dx, fs, rfl, ha, hs⟩ := hq
  cases rx
  obtain ⟨f, fd, M, fi, F, ok⟩ := d.ex
  obtain ⟨mA, J, _⟩ := ins_get I.hok ha
  obtain ⟨od, J, _⟩ := J.look
  obtain ⟨mm, hF⟩ := I.fr
  exact PySem.W.ksp_inv hF I.ok.mod.kin J M.at_ M.fn (run_fn (us := [.ref a]) (vs := [.ref a]) ok (hr.mono hj) (F.binds b) .nil hx I (.cons rfl .nil) hs)
theorem op_neI (d : DefM X.prog X.w X.K X.mg X.base CX k C "__eq__" q st ps sp) (b : BndM "__eq__" q st ps) (o : OwnC X.K X.mg x C fld) (hr : Room j X.A) (hj : k + 1 ≤ j) (hx : Passes CX X E) :
    OpR X (compareOp .NotEq) (fun x y H Q => ∃ a dx fs, x = .ref a ∧ H a = some (.ins C dx fs) ∧ Other C y H ∧ sp [x, y] H (fun v H' => ∃ b, v = .bl b ∧ Q (.bl (!b)) H') E) := by
  intro pins s σ H x y v u Q I rx ry hq
  obtain ⟨a, dx, fs, rfl, ha, hy, hs⟩ := hq
  cases rx
  obtain ⟨f, fd, M, fi, F, ok⟩ := d.ex
  obtain ⟨tb, t1, t2⟩ := other_ty I o hy ry
  obtain ⟨mA, J, _⟩ := ins_get I.hok ha
  obtain ⟨od, J, _⟩ := J.look
  obtain ⟨mm, hF⟩ := I.fr
  have X0 := I.kIn
  have tyO : PySem.W.Looks (model X.prog X.w) s.heap (isInstance (.ref a) (.type "object")) true := J.type.andThen (PySem.W.looks_mroIn X0 o.ko)
  have hsz : (Value.ref a :: [u]).length = ps.length := by
    have := (show Vals [V.ref a, y] [Value.ref a, u] from .cons rfl (.cons ry .nil)).length
    rw [show Value.ref a :: [u] = [Value.ref a, u] from rfl, ← this]
    exact ok.len _ _ _ _ hs
  have core : wpAny (model X.prog X.w) X.A.in1 (call (.ref f) [.ref a, u]) (fun v s' => ∃ b, v = .bool b ∧ EP X pins σ Q (.bool (!b)) s') X.xe s := by
    have hb := (F.binds b) s [.ref a, u] X0 (by rw [List.append_nil]; exact hsz)
    rw [List.append_nil] at hb
    refine wpAny_call (codeAny_mono (ok.run X.A.in1 X.stack s H ⟨[.ref a, u], []⟩ [.ref a, u] [.ref a, y] _ E ((hr.mono hj).in1) I.env0.in1 hb (.cons rfl (.cons ry .nil)) hs) fun r s' hq => ?_)
    cases r with
    | error e => exact hx pins σ H s e s' I hq
    | ok fl =>
      cases fl with
      | ret w' =>
        obtain ⟨z, H', I', rz, bb, rfl, qq⟩ := I.after hq
        cases rz
        exact ⟨bb, rfl, .bl (!bb), H', I', rfl, qq⟩
      | next => exact False.elim hq
      | brk => exact False.elim hq
      | cont => exact False.elim hq
  have body : wpAny (model X.prog X.w) X.A (call (.builtin "object.__ne__") [.ref a, u]) (fun v s' => ∃ b, v = .bool b ∧ EP X pins σ Q (.bool b) s') X.xe s := by
    refine wpAny_call (codeAny_call_builtin PySem.F.cmp_object.ne.plain PySem.F.cmpEntry_ne (PySem.W.check_slot PySem.F.cmpKind_ne PySem.F.cmpSplit_ne tyO (PySem.F.cmpArgs_ne _ _) ?_))
    clear hs
    obtain ⟨hp, g, dd, t, os⟩ := s
    unfold Builtin.«object.__ne__»
    repeat (first
      | with_reducible refine wpAny_cRoomFor (hr.mono hj).in1.units0 ?_
      | (refine wpAny_bind (m := callSpecialIfBound? (.ref a) (Str.ofString "__eq__") [u]) (PySem.W.ifBound_K X0 J M.at_ M.fn (wpAny_mono core (fun r s' hr => ?_) fun _ _ e => e)))
      | wp_step)
    obtain ⟨bb, rfl, hq⟩ := hr
    dsimp only
    refine wpAny_bind (wpAny_truthy_bool ?_)
    exact wpAny_pure ⟨_, rfl, hq⟩
  have bound : wpAny (model X.prog X.w) X.A (callSpecialIfBound? (.ref a) "__ne__" [u]) (fun r s' => ∃ b, r = some (.bool b) ∧ EP X pins σ Q (.bool b) s') X.xe s := by
    simp only [callSpecialIfBound?, bindSpecialIfBound?]
    refine wpAny_holding (wpAny_bind (wpAny_bind (wpAny_bind (J.type.here ((PySem.W.looks_findIn X0 o.ne).here ?_)))))
    refine wpAny_bind (wpAny_askSetting (wpAny_ite ?_))
    have fin : wpAny (model X.prog X.w) X.A (call (.builtin "object.__ne__") ([.ref a] ++ [u]) >>= fun v => pure (some v)) (fun r s' => ∃ b, r = some (.bool b) ∧ EP X pins σ Q (.bool b) s') X.xe s := wpAny_bind (wpAny_mono body (fun v s' h' => by
      obtain ⟨b, rfl, h'⟩ := h'
      exact wpAny_pure ⟨b, rfl, h'⟩) fun _ _ h' => h')
    split
    · exact wpAny_bind ((PySem.W.Looks.of_pure (ne_bind _)).here (wpAny_pure (by exact fin)))
    · exact wpAny_tryCatch (wpAny_bind ((PySem.W.Looks.of_pure (ne_bind _)).here (wpAny_pure (by exact fin))))
  have one : wpAny (model X.prog X.w) X.A (tryCompare (.ref a) "__ne__" u) (fun r s' => ∃ v, r = some v ∧ EP X pins σ Q v s') X.xe s := by
    unfold tryCompare
    refine wpAny_bind (wpAny_mono bound (fun v s' hv => ?_) fun _ _ e => e)
    obtain ⟨b, rfl, hq⟩ := hv
    exact wpAny_pure ⟨_, rfl, hq⟩
  show wpAny (model X.prog X.w) X.A (richCompare .NotEq (.ref a) u) (EP X pins σ Q) X.xe s
  unfold richCompare
  simp only [oneThing_ref]
  refine wpAny_holding (wpAny_bind (wpAny_cRoomFor hr.units0 ?_))
  refine wpAny_bind (J.type.here (wpAny_bind (t1.here ?_)))
  split
  · rename_i q
    have e : PySem.W.subIn X.K tb (.ref C) = some false := by
      rcases Bool.or_eq_true_iff.mp t2 with e | e
      · rw [beq_iff_eq.mp e] at q; simp at q
      · exact beq_iff_eq.mp e
    refine wpAny_bind ((PySem.W.looks_subIn X0 e).here ?_)
    simp only [Bool.false_eq_true, if_false]
    refine wpAny_bind (wpAny_mono one (fun r s' z => ?_) fun _ _ e => e)
    obtain ⟨v, rfl, hq⟩ := z
    exact wpAny_pure hq
  · refine wpAny_bind (wpAny_pure ?_)
    simp only [Bool.false_eq_true, if_false]
    refine wpAny_bind (wpAny_mono one (fun r s' z => ?_) fun _ _ e => e)
    obtain ⟨v, rfl, hq⟩ := z
    exact wpAny_pure hq
end
end Lw
/-! Maps of points: two lines (number, mirrored), one for each coordinate. -/
namespace Lw
open PySem PySem.Spec PyProof.Rows L2 Evl
/-- where a line takes a place -/
def tk (l : Int × Bool) (u : Int) : Int := if l.2 = true then l.1 - u else l.1 + u
/-- a map in the heap -/
def MI (C : Addr) (H : Hp) (a : Addr) (l r : Int × Bool) : Prop := ∃ dx t r1 r2, H a = some (.ins C dx [("lines", .ref t)]) ∧ H t = some (.tup [.ref r1, .ref r2]) ∧ H r1 = some (.tup [.int l.1, .bl l.2]) ∧ H r2 = some (.tup [.int r.1, .bl r.2])
theorem MI.up {C : Addr} {H H' : Hp} {a : Addr} {l r : Int × Bool} (e : Ex H H') (m : MI C H a l r) : MI C H' a l r := by
  obtain ⟨dx, t, r1, r2, h1, h2, h3, h4⟩ := m
  exact ⟨dx, t, r1, r2, e _ _ h1, e _ _ h2, e _ _ h3, e _ _ h4⟩
theorem MI.ins {C : Addr} {H : Hp} {a : Addr} {l r : Int × Bool} (m : MI C H a l r) : ∃ dx fs, H a = some (.ins C dx fs) := by
  obtain ⟨dx, t, r1, r2, h1, _⟩ := m
  exact ⟨dx, _, h1⟩
/-- Mirror(x, y, across, down) -/
def spMkM (C : Addr) : Sp := fun vs H Q _ => ∃ a dx x y o d, vs = [.ref a, .int x, .int y, .bl o, .bl d] ∧ H a = some (.ins C dx []) ∧ ∀ H', (∀ b u, b ≠ a → H b = some u → H' b = some u) → MI C H' a (x, o) (y, d) → Q .non H'
theorem mir_made {C : Addr} {H : Hp} {X Y : Int} {o d : Bool} {Q : VK} {E : XK} (q : ∀ a H', Ex H H' → MI C H' a (X, o) (Y, d) → Q (.ref a) H') :
    ∀ x dx, H x = none → H dx = none → dx ≠ x → spMkM C [.ref x, .int X, .int Y, .bl o, .bl d] (upd (upd H dx (.own x)) x (.ins C dx [])) (fun v H3 => v = .non ∧ Q (.ref x) H3) E := by
  intro x dx hx hd ne
  refine ⟨x, dx, X, Y, o, d, rfl, upd_same, fun H' h m => ⟨rfl, q x H' (fun b u hb => ?_) m⟩⟩
  have n1 : b ≠ x := ne_of_none hb hx
  have n2 : b ≠ dx := ne_of_none hb hd
  exact h b u n1 (by rw [upd_ne n1, upd_ne n2]; exact hb)
theorem mir_made2 {C : Addr} {H : Hp} (X Y : Int) (o d : Bool) {g : Addr → List V} {Q : VK} {E : XK} (hg : ∀ x, g x = [.ref x, .int X, .int Y, .bl o, .bl d]) (q : ∀ a H', Ex H H' → MI C H' a (X, o) (Y, d) → Q (.ref a) H') :
    ∀ x dx, H x = none → H dx = none → dx ≠ x → spMkM C (g x) (upd (upd H dx (.own x)) x (.ins C dx [])) (fun v H3 => v = .non ∧ Q (.ref x) H3) E := fun x dx hx hd ne => by
  rw [hg]
  exact mir_made q x dx hx hd ne
theorem mir_made3 {C : Addr} {H : Hp} {X Y : Int} {o d : Bool} {Q : VK} {E : XK} {x dx : Addr} (hx : H x = none) (hd : H dx = none) (ne : dx ≠ x) (q : ∀ H', Ex H H' → MI C H' x (X, o) (Y, d) → Q .non H') :
    spMkM C [.ref x, .int X, .int Y, .bl o, .bl d] (upd (upd H dx (.own x)) x (.ins C dx [])) Q E := by
  refine ⟨x, dx, X, Y, o, d, rfl, upd_same, fun H' h m => q H' (fun b u hb => ?_) m⟩
  have n1 : b ≠ x := ne_of_none hb hx
  have n2 : b ≠ dx := ne_of_none hb hd
  exact h b u n1 (by rw [upd_ne n1, upd_ne n2]; exact hb)
def spCallM (C : Addr) : Sp := fun vs H Q _ => ∃ a l r u v, MI C H a l r ∧ vs = [.ref a, .int u, .int v] ∧ ∀ p H', Ex H H' → H' p = some (.tup [.int (tk l u), .int (tk r v)]) → Q (.ref p) H'
def spEqM (C : Addr) : Sp := fun vs H Q _ => ∃ a l r y, MI C H a l r ∧ vs = [.ref a, y] ∧ ((∃ b l' r', y = .ref b ∧ MI C H b l' r' ∧ Q (.bl (decide (l = l' ∧ r = r'))) H) ∨ ∃ b ys, y = .ref b ∧ H b = some (.tup ys) ∧ Q (.bl false) H)
/-- behind one another -/
def tkm (l k : Int × Bool) : Int × Bool := (tk l k.1, decide (l.2 ≠ k.2))
def tki (l : Int × Bool) : Int × Bool := (if l.2 = true then l.1 else -l.1, l.2)
def spMulM (C : Addr) : Sp := fun vs H Q _ => ∃ a b l r l' r', MI C H a l r ∧ MI C H b l' r' ∧ vs = [.ref a, .ref b] ∧ ∀ c H', Ex H H' → MI C H' c (tkm l l') (tkm r r') → Q (.ref c) H'
def spInvM (C : Addr) : Sp := fun vs H Q _ => ∃ a l r, MI C H a l r ∧ vs = [.ref a] ∧ ∀ c H', Ex H H' → MI C H' c (tki l) (tki r) → Q (.ref c) H'
theorem tk_mul (l k : Int × Bool) (u : Int) : tk (tkm l k) u = tk l (tk k u) := by
  obtain ⟨a, x⟩ := l
  obtain ⟨b, y⟩ := k
  cases x <;> cases y <;> simp [tk, tkm] <;> omega
theorem tk_inv1 (l : Int × Bool) (u : Int) : tk (tki l) (tk l u) = u := by
  obtain ⟨a, x⟩ := l
  cases x <;> simp [tk, tki] <;> omega
theorem tk_inv2 (l : Int × Bool) (u : Int) : tk l (tk (tki l) u) = u := by
  obtain ⟨a, x⟩ := l
  cases x <;> simp [tk, tki] <;> omega
theorem tkm_assoc (a b c : Int × Bool) : tkm (tkm a b) c = tkm a (tkm b c) := by
  obtain ⟨a, x⟩ := a
  obtain ⟨b, y⟩ := b
  obtain ⟨c, z⟩ := c
  cases x <;> cases y <;> cases z <;> simp [tk, tkm] <;> omega
theorem tkm_inv1 (l : Int × Bool) : tkm l (tki l) = (0, false) := by
  obtain ⟨a, x⟩ := l
  cases x <;> simp [tk, tkm, tki] <;> omega
theorem tkm_inv2 (l : Int × Bool) : tkm (tki l) l = (0, false) := by
  obtain ⟨a, x⟩ := l
  cases x <;> simp [tk, tkm, tki] <;> omega
theorem tki_mul (l k : Int × Bool) : tki (tkm l k) = tkm (tki k) (tki l) := by
  obtain ⟨a, x⟩ := l
  obtain ⟨b, y⟩ := k
  cases x <;> cases y <;> simp [tk, tkm, tki] <;> omega
theorem tki_tki (l : Int × Bool) : tki (tki l) = l := by
  obtain ⟨a, x⟩ := l
  cases x <;> simp [tki]
/-- where two lines agree, among the places of a stretch -/
def mt (l k : Int × Bool) (s w : Int) : Int × Int := if l.2 = k.2 then (s, if l.1 = k.1 then w else 0) else
  ((if l.2 = true then l.1 - k.1 else k.1 - l.1) / 2, if (if l.2 = true then l.1 - k.1 else k.1 - l.1) % 2 = 0 ∧ s ≤ (if l.2 = true then l.1 - k.1 else k.1 - l.1) / 2 ∧ (if l.2 = true then l.1 - k.1 else k.1 - l.1) / 2 < s + w then 1 else 0)
theorem mt_ok {l k : Int × Bool} {s w u : Int} (h1 : s ≤ u) (h2 : u < s + w) : tk l u = tk k u ↔ (mt l k s w).1 ≤ u ∧ u < (mt l k s w).1 + (mt l k s w).2 := by
  obtain ⟨a, x⟩ := l
  obtain ⟨b, y⟩ := k
  by_cases e : x = y
  · subst e
    have m : mt (a, x) (b, x) s w = (s, if a = b then w else 0) := if_pos rfl
    rw [m]
    by_cases c : a = b
    · subst c
      simp only [if_true]
      exact ⟨fun _ => ⟨h1, h2⟩, fun _ => by first | rfl | trivial⟩
    · simp only [if_neg c]
      cases x <;> simp [tk] <;> omega
  · have m : mt (a, x) (b, y) s w = ((if x = true then a - b else b - a) / 2, if (if x = true then a - b else b - a) % 2 = 0 ∧ s ≤ (if x = true then a - b else b - a) / 2 ∧ (if x = true then a - b else b - a) / 2 < s + w then 1 else 0) := if_neg e
    rw [m]
    have q : tk (a, x) u = tk (b, y) u ↔ 2 * u = (if x = true then a - b else b - a) := by
      cases x <;> cases y <;> first | exact absurd rfl e | (simp [tk] <;> omega)
    rw [q]
    generalize (if x = true then a - b else b - a) = z
    by_cases c : z % 2 = 0 ∧ s ≤ z / 2 ∧ z / 2 < s + w
    · simp only [if_pos c]
      omega
    · simp only [if_neg c]
      omega
/-- equal points -/
theorem ne_pt {K : PySem.W.Frag} {H : Hp} {a b : Addr} {x y u v : Int} {Q : VK} (h : H a = some (.tup [.int x, .int y])) (h' : H b = some (.tup [.int u, .int v])) (e1 : x = u) (e2 : y = v) (q : Q (.bl false) H) : rNeD K (.ref a) (.ref b) H Q := by
  subst e1
  subst e2
  refine ⟨datP (x, y), datP (x, y), .tup (SqT.of h) (.cons (.int _) (.cons (.int _) .nil)), .tup (SqT.of h') (.cons (.int _) (.cons (.int _) .nil)), shaped_pt _, shaped_pt _, ?_⟩
  rw [eqv_pt, decide_eq_true rfl]
  exact q
theorem mt_comm (l k : Int × Bool) (s w : Int) : mt l k s w = mt k l s w := by
  obtain ⟨a, x⟩ := l
  obtain ⟨b, y⟩ := k
  by_cases e : x = y
  · subst e
    show (if x = x then _ else _) = (if x = x then _ else _)
    rw [if_pos rfl, if_pos rfl]
    by_cases c : a = b
    · subst c; rfl
    · have c' : ¬ b = a := fun z => c z.symm
      show (s, if a = b then w else 0) = (s, if b = a then w else 0)
      rw [if_neg c, if_neg c']
  · have e' : ¬ y = x := fun z => e z.symm
    unfold mt
    simp only [if_neg e, if_neg e']
    cases x <;> cases y <;> first | exact absurd rfl e | rfl
/-- where two maps agree, as a rectangle -/
abbrev mbox (l r l' r' : Int × Bool) (b : Box) : Box := ((mt l l' b.1 b.2.2.1).1, (mt r r' b.2.1 b.2.2.2).1, (mt l l' b.1 b.2.2.1).2, (mt r r' b.2.1 b.2.2.2).2)
theorem mbox_comm (l r l' r' : Int × Bool) (b : Box) : mbox l r l' r' b = mbox l' r' l r b := by
  unfold mbox
  rw [mt_comm l l', mt_comm r r']
theorem mbox_ok {l r l' r' : Int × Bool} {b : Box} {p : Int × Int} : InBox b p ∧ (tk l p.1 = tk l' p.1 ∧ tk r p.2 = tk r' p.2) ↔ InBox (mbox l r l' r' b) p ∧ InBox b p := by
  constructor
  · rintro ⟨h, c1, c2⟩
    have a := (mt_ok h.1 h.2.1).mp c1
    have b := (mt_ok h.2.2.1 h.2.2.2).mp c2
    exact ⟨⟨a.1, a.2, b.1, b.2⟩, h⟩
  · rintro ⟨c, h⟩
    exact ⟨h, (mt_ok h.1 h.2.1).mpr ⟨c.1, c.2.1⟩, (mt_ok h.2.2.1 h.2.2.2).mpr ⟨c.2.2.1, c.2.2.2⟩⟩
/-- the points that g keeps -/
def SiftF (g : Int × Int → Bool) (fs : List (Int × Int)) : PeT := fun i o H => ∃ p, fs[i]? = some p ∧ ((g p = true ∧ ∃ q, o = some (.ref q) ∧ RowAt H q p) ∨ (g p = false ∧ o = none))
theorem siftF_mono (g : Int × Int → Bool) (fs : List (Int × Int)) : Mono (SiftF g fs) := fun i o H H' e ⟨p, h, r⟩ => ⟨p, h, r.imp (fun ⟨a, q, c, d⟩ => ⟨a, q, c, e _ _ (fun xs => by intro z; cases z) d⟩) id⟩
theorem siftF_all {H : Hp} {g : Int × Int → Bool} : ∀ {os : List (Option V)} {fs : List (Int × Int)}, os.length = fs.length → (∀ (i : Nat) o, os[i]? = some o → SiftF g fs i o H) → ∃ qs : List Addr, os.filterMap id = qs.map V.ref ∧ Rows H qs (fs.filter g)
  | [], [], _, _ => ⟨[], rfl, .nil⟩
  | o :: os, p :: fs, hl, h => by
    obtain ⟨qs, e2, t⟩ := siftF_all (os := os) (fs := fs) (by simpa using hl) fun i z e => h (i + 1) z e
    obtain ⟨p', e, r⟩ := h 0 o rfl
    cases e
    rcases r with ⟨a, q, rfl, c⟩ | ⟨a, rfl⟩
    · exact ⟨q :: qs, by show V.ref q :: os.filterMap id = _; rw [e2]; rfl, by rw [List.filter_cons_of_pos a]; exact .cons c t⟩
    · exact ⟨qs, by show os.filterMap id = _; exact e2, by rw [List.filter_cons_of_neg (by rw [a]; exact Bool.false_ne_true)]; exact t⟩
  | [], _ :: _, hl, _ => by simp at hl
  | _ :: _, [], hl, _ => by simp at hl
theorem eq_pt {K : PySem.W.Frag} {H : Hp} {a b : Addr} {x y u v : Int} {Q : VK} (h : H a = some (.tup [.int x, .int y])) (h' : H b = some (.tup [.int u, .int v])) (q : Q (.bl (decide (x = u ∧ y = v))) H) : rEqD K (.ref a) (.ref b) H Q := by
  refine ⟨datP (x, y), datP (u, v), .tup (SqT.of h) (.cons (.int _) (.cons (.int _) .nil)), .tup (SqT.of h') (.cons (.int _) (.cons (.int _) .nil)), shaped_pt _, shaped_pt _, ?_⟩
  rw [eqv_pt, show decide ((x, y) = (u, v)) = decide (x = u ∧ y = v) from by rw [Bool.eq_iff_iff]; simp [Prod.ext_iff]]
  exact q
/-! what repr tells of a rectangle or None -/
def ovd : Option Box → PyData
  | none => .none
  | some c => .tuple [.int c.1, .int c.2.1, .int c.2.2.1, .int c.2.2.2]
def OvFine : Option Box → Prop
  | none => True
  | some c => (-100000000000000 ≤ c.1 ∧ c.1 ≤ 100000000000000) ∧ (-100000000000000 ≤ c.2.1 ∧ c.2.1 ≤ 100000000000000) ∧ (-100000000000000 ≤ c.2.2.1 ∧ c.2.2.1 ≤ 100000000000000) ∧ -100000000000000 ≤ c.2.2.2 ∧ c.2.2.2 ≤ 100000000000000
theorem ovd_nice {o : Option Box} (h : OvFine o) : Nice 8011 1 (ovd o) := by
  cases o with
  | none => exact Atm.non.nice.mono (by decide) (by decide)
  | some c =>
    obtain ⟨h1, h2, h3, h4⟩ := h
    refine (nice_tup (B := 2000) (D := 0) (n := 4) (ds := [.int c.1, .int c.2.1, .int c.2.2.1, .int c.2.2.2]) (fun x m => ?_) (Nat.le_refl 4)).mono (by decide) (by decide)
    rcases List.mem_cons.mp m with rfl | m
    · exact (atm_small h1.1 h1.2).nice
    rcases List.mem_cons.mp m with rfl | m
    · exact (atm_small h2.1 h2.2).nice
    rcases List.mem_cons.mp m with rfl | m
    · exact (atm_small h3.1 h3.2).nice
    rcases List.mem_cons.mp m with rfl | m
    · exact (atm_small h4.1 h4.2).nice
    cases m
theorem ovd_dp {K : PySem.W.Frag} {H : Hp} {v : V} {o : Option Box} (h : OvAt H v o) : Dp K H v (ovd o) := by
  cases o with
  | none =>
    obtain rfl : v = .non := h
    exact .non
  | some c =>
    obtain ⟨t, rfl, a⟩ := h
    exact .tup (SqT.of a) (.cons (.int _) (.cons (.int _) (.cons (.int _) (.cons (.int _) .nil))))
theorem dd_ov3 {K : PySem.W.Frag} {H : Hp} {a : Addr} {u v w : V} {o1 o2 o3 : Option Box} (h : H a = some (.lst [u, v, w])) (h1 : OvAt H u o1) (h2 : OvAt H v o2) (h3 : OvAt H w o3) (f1 : OvFine o1) (f2 : OvFine o2) (f3 : OvFine o3) :
    Dd K H (.ref a) (.list [ovd o1, ovd o2, ovd o3]) ∧ Shows (.list [ovd o1, ovd o2, ovd o3]) := by
  refine dd_nice (.lst (SqL.of h) (.cons (ovd_dp h1) (.cons (ovd_dp h2) (.cons (ovd_dp h3) .nil)))) ((nice_lst (B := 8011) (D := 1) (n := 3) (ds := [ovd o1, ovd o2, ovd o3]) (fun x m => ?_) (Nat.le_refl 3)).mono (by decide) (by decide))
  rcases List.mem_cons.mp m with rfl | m
  · exact ovd_nice f1
  rcases List.mem_cons.mp m with rfl | m
  · exact ovd_nice f2
  rcases List.mem_cons.mp m with rfl | m
  · exact ovd_nice f3
  cases m
theorem ovl_fine {a b : Box} (g : GoodBox b) : OvFine (ovl a b) := by
  obtain ⟨a1, a2, a3, a4⟩ := a
  obtain ⟨b1, b2, b3, b4⟩ := b
  obtain ⟨⟨h1, h2⟩, ⟨h3, h4⟩, ⟨h5, h6⟩, h7, h8⟩ := g
  simp only at h1 h2 h3 h4 h5 h6 h7 h8
  unfold ovl
  simp only
  by_cases c : min (a1 + a3) (b1 + b3) ≤ max a1 b1 ∨ min (a2 + a4) (b2 + b4) ≤ max a2 b2
  · rw [if_pos c]
    trivial
  · rw [if_neg c]
    exact ⟨⟨by dsimp only; omega, by dsimp only; omega⟩, ⟨by dsimp only; omega, by dsimp only; omega⟩, ⟨by dsimp only; omega, by dsimp only; omega⟩, by dsimp only; omega, by dsimp only; omega⟩
theorem mbox_sym {l r l' r' : Int × Bool} {b : Box} {H : Hp} {v : V} (h : OvAt H v (ovl (mbox l' r' l r b) b)) : OvAt H v (ovl (mbox l r l' r' b) b) := by
  rw [mbox_comm]
  exact h
end Lw
/-! Texts and own instances: repr and truth of an instance, an instance called by name, text * int, replace. -/
namespace Lw
open PySem PySem.Spec PyProof.Rows L2 Evl
section
variable {X : Cx} {CX : CXT} {k j : Nat} {C : Addr} {q x : Str} {st : Stmt} {ps ks : List Str} {sp : Sp} {E : XK} {apos pos p : Pos} {fe o e e2 : Expr} {es : List Expr} {kwe : List Keyword} {tf to te t2 : TE} {tks ta : TA} {r : R2}
theorem tru_ins (hb : PySem.W.findIn X.K (.ref C) "__bool__" = some none) (hl : PySem.W.findIn X.K (.ref C) "__len__" = some none) : TruR X (fun x H Q => ∃ a dx fs, x = .ref a ∧ H a = some (.ins C dx fs) ∧ Q true H) := by
  intro pins s σ H x v Q I rx h
  obtain ⟨a, dx, fs, rfl, ha, q⟩ := h
  cases rx
  obtain ⟨mA, J, _⟩ := ins_get I.hok ha
  obtain ⟨od, J, _⟩ := J.look
  obtain ⟨mm, hF⟩ := I.fr
  exact PySem.W.truthy_K0 hF I.ok.mod.kin J hb hl ⟨H, I, q⟩
/-- a test that is a value's truth, by any rule -/
theorem pt_truthR {e : Expr} {ta : TE} {r : V → Hp → (Bool → Hp → Prop) → Prop} (ha : PE X e ta) (hr : TruR X r) (he : ∀ whole, isTrue e X.env whole = (do let v ← whole; standAt e.pos; holding [v] (truthy v))) : PT X e (fun σ H Q => ta σ H fun x H' => r x H' Q) :=
  ⟨fun pins s σ H Q I h => isTrue_plain (thn (ha.run pins s σ H _ I h) fun v s1 ⟨x, H1, I1, r1, q1⟩ => hr pins s1 σ H1 x v Q I1 r1 q1) (he _)⟩
/-- repr(an instance) -/
theorem call_reprI (d : DefM X.prog X.w X.K X.mg X.base CX k C "__repr__" q st ps sp) (b : BndM "__repr__" q st ps) (hr : Room j X.A) (hj : k + 1 ≤ j) (hx : Passes CX X E) :
    CallR X (.builtin "repr") (fun xs H Q => ∃ a dx fs, xs = [.ref a] ∧ H a = some (.ins C dx fs) ∧ sp [.ref a] H (fun v H' => ∃ y, v = .str y ∧ Q (.str y) H') E) := by
  intro pins s σ H xs us Q I rv hq
  obtain ⟨a, dx, fs, rfl, ha, hs⟩ := hq
  obtain ⟨u, rfl, ru⟩ := vals1 rv
  cases ru
  obtain ⟨f, fd, M, fi, F, ok⟩ := d.ex
  obtain ⟨mA, J, _⟩ := ins_get I.hok ha
  obtain ⟨od, J, _⟩ := J.look
  obtain ⟨mm, hF⟩ := I.fr
  have X0 := I.kIn
  have hsz : [Value.ref a].length = ps.length := by
    have := (show Vals [V.ref a] [Value.ref a] from .cons rfl .nil).length
    rw [← this]
    exact ok.len _ _ _ _ hs
  refine PySem.W.repr_K (hr.mono hj).in1.units0 hF I.ok.mod.kin J M.at_ M.fn ?_
  have hb := (F.binds b) s [.ref a] X0 (by rw [List.append_nil]; exact hsz)
  rw [List.append_nil] at hb
  refine wpAny_call (codeAny_mono (ok.run X.A.in1 X.stack s H ⟨[.ref a], []⟩ [.ref a] [.ref a] _ E ((hr.mono hj).in1) I.env0.in1 hb (.cons rfl .nil) hs) fun r s' hq => ?_)
  cases r with
  | error e => exact hx pins σ H s e s' I hq
  | ok fl =>
    cases fl with
    | ret w' =>
      obtain ⟨z, H', I', rz, y, rfl, qq⟩ := I.after hq
      obtain ⟨t, rfl⟩ := (show ∃ t, w' = Value.str y t from rz)
      exact ⟨.str y, H', I', ⟨t, rfl⟩, qq⟩
    | next => exact False.elim hq
    | brk => exact False.elim hq
    | cont => exact False.elim hq
theorem callO_kw {M : Model} {A : Around} {E : Value → Shared → Prop} {s : Shared} {a : Addr} {pos : Pos} {Q : Value → Shared → Prop} {args : List (Bool × Sem Value)} {keywords : List (Option Str × Sem Value)} (hplain : (args.any (·.1) || keywords.any (·.1.isNone)) = false)
    (h : wpAny M A (evalArgs (.ref a) true args keywords) (fun z s₁ => (∃ C ox od, PySem.W.InstAt s₁.heap a ox C od ∧ ox.data = .plain) ∧ wpAny M A (call (.ref a) ([] ++ z.pos) z.kw) Q E s₁) E s) : wpAny M A (callWith pos (.ref a) [] args keywords) Q E s := by
  unfold callWith
  refine wpAny_bind (wpAny_holding (wpAny_mono h (fun z s₁ h₁ => wpAny_bind (wpAny_standAt ?_)) fun _ _ y => y))
  obtain ⟨⟨C, ox, od, J, hd⟩, h₁⟩ := h₁
  have L := PySem.W.kco_keeper (M := M) J hd
  simp only [hplain]
  refine wpAny_bind (L.here ?_)
  have tail : ∀ {t : Sem Value}, wpAny M A t Q E s₁ → wpAny M A (t >>= fun r => holding [r] point >>= fun _ => pure r) Q E s₁ :=
    fun ht => wpAny_bind (wpAny_mono ht (fun r s₂ hr => wpAny_bind (wpAny_holding (wpAny_point (wpAny_pure hr)))) fun _ _ y => y)
  exact tail (wpAny_operateT h₁)
/-- x(k = v, ..), x an instance -/
theorem pe_cok {g : {α : Type} → List α → List α → List α} (hf : PE X fe tf) (c : DefM X.prog X.w X.K X.mg X.base CX k C "__call__" q st ps sp) (b : BndMK "__call__" q st ps 1 ks g)
    (hrel : ∀ {vs zs : List V} {us ws : List Value}, Vals vs us → Vals zs ws → Vals (g vs zs) (g us ws)) (hr : Room j X.A) (hj : k ≤ j) (hx : Passes CX X E) (hkw : PK X kwe tks)
    (hall : (backToKw pos (keywordEach kwe X.env)).all (·.1.isSome) = true := by rfl) (hks : (backToKw pos (keywordEach kwe X.env)).filterMap (·.1) = ks := by rfl)
    (hpl : ((backTo pos (starEach [] X.env)).any (·.1) || (backToKw pos (keywordEach kwe X.env)).any (·.1.isNone)) = false := by rfl)
    (ht : eval (.Call fe [] kwe pos) X.env = (do callWith pos (← eval fe X.env) [] (backTo pos (starEach [] X.env)) (backToKw pos (keywordEach kwe X.env))) := by rfl) :
    PE X (.Call fe [] kwe pos) (fun σ H Q => tf σ H fun y H1 => ∃ a, y = V.ref a ∧ tks σ H1 fun zs H2 => (∃ dx fs, H2 a = some (.ins C dx fs)) ∧ zs.length = ks.length ∧ sp (g [V.ref a] zs) H2 Q E) := by
  obtain ⟨f, fd, M, fi, F, ok⟩ := c.ex
  obtain ⟨oc, od, kV, doc, pm, an, cdv, ct, osl, rfl, lk, hcd⟩ := F.ex
  have kb : KBn X.K (PySem.W.fnOf "__call__" q (defArgs st) (defBody st) (defScope st) .none kV doc pm an cdv ct) ps 1 ks (fun us ws => g us ws) (fun vs zs => g vs zs) := ⟨fun s us ws _ h1 h2 => .of_eq (b kV doc pm an cdv ct us ws h1 h2), hrel⟩
  refine ⟨fun pins s σ H Q I h => ?_⟩
  rw [ht]
  refine wpAny_bind (thn (hf.run pins s σ H _ I h) fun u s1 ⟨y, H1, I1, ry, a, ey, q⟩ => ?_)
  subst ey
  obtain rfl : u = Value.ref a := ry
  refine callO_kw hpl (evalArgs_kw2_nil hall (thn (hkw.run pos pins s1 σ H1 _ I1 q) fun ws s2 ⟨zs, H2, I2, rz, hi, l1, q2⟩ => ?_))
  obtain ⟨ox, od', J, hd⟩ := StX.insC_at I2 (.inr hi)
  refine ⟨⟨C, ox, od', J, hd⟩, ?_⟩
  have hwl : ws.length = ks.length := by rw [← rz.length]; exact l1
  rw [hks]
  refine wpAny_call (PySem.W.kco_code I2.kIn J hd M.at_ M.fn fi ?_)
  have hb := kb.1 s2 [.ref a] ws I2.kIn rfl hwl
  refine codeAny_mono (ok.run X.A X.stack s2 H2 ⟨[.ref a], ks.zip ws⟩ (g [.ref a] ws) (g [V.ref a] zs) _ E (hr.mono hj) I2.env0 hb (hrel (.cons rfl .nil) rz) q2) fun r s' hq => ?_
  cases r with
  | error e => exact hx pins σ H2 s2 e s' I2 hq
  | ok fl =>
    cases fl with
    | ret w' => exact I2.after hq
    | next => exact False.elim hq
    | brk => exact False.elim hq
    | cont => exact False.elim hq
/-- text * int -/
theorem op_mulS : OpR X (binaryOp .Mult) (fun x y H Q => ∃ z n, x = .str z ∧ y = .int n ∧ MulOk z n ∧ Q (.str (Txt.mul z n)) H) := by
  intro pins s σ H x y v u Q I rx ry h
  obtain ⟨z, n, rfl, rfl, ok, q⟩ := h
  obtain ⟨t, rfl⟩ := (show ∃ t, v = Value.str z t from rx)
  obtain ⟨t2, rfl⟩ := (show ∃ t, u = Value.int n t from ry)
  exact SB.mul ok fun t' k => ⟨.str _, H, I.tok k, ⟨t', rfl⟩, q⟩
/-! ### replace: the texts are not one object -/
/-- as PE, and behind it a token is out -/
def PEk (X : Cx) (e : Expr) (t : TE) : Prop := ∀ (pins : List (Addr × Obj)) (s : Shared) (σ : L2.St) (H : Hp) (Q : VK), Inv X pins σ H s → t σ H Q → wpAny (model X.prog X.w) X.A (eval e X.env) (fun v s' => 1 ≤ s'.toks ∧ EP X pins σ Q v s') X.xe s
theorem PEk.pe (h : PEk X e te) : PE X e te := ⟨fun pins s σ H Q I q => wpAny_mono (h pins s σ H Q I q) (fun _ _ z => z.2) fun _ _ z => z⟩
theorem pek_ix {i : Int} {n : Nat} {c : Pos} (hr : IxR X r) (ha : PE X o to) (hs : PlainIx (.Constant (.int i) n c)) : PEk X (.Subscript o (.Constant (.int i) n c) pos) (tOp r to (tC (.int i))) := by
  intro pins s σ H Q I h
  refine Subscript_ (thn (ha.run pins s σ H _ I h) fun v s1 ⟨x, H1, I1, r1, q1⟩ => wpAny_Constant_int ?_)
  exact wpAny_mono (wpAny_toks_of (n := 1) (by show 1 ≤ s1.toks + 1; omega) (hr o (.Constant (.int i) n c) pins _ σ H1 x (.int i) v _ Q (I1.tok _) r1 ⟨_, rfl⟩ q1 (hs _ _))) (fun _ _ z => z) fun _ _ z => z.2
theorem pek_call {st : Stmt} (c : Cl X.prog X.w X.K X.mg X.base CX k x st ps sp) (b : Bnd x st ps) (hr : Room j X.A) (hk : k ≤ j) (hg : Gl X x) (hx : Passes CX X E) (he : PEk X e te) (ha : PA X es ta)
    (hdb : (x == ("__debug__" : Str)) = false := by decide) (hs : starEach (e :: es) X.env = (false, eval e X.env) :: starEach es X.env := by rfl) (hpl : (backTo pos (starEach es X.env)).any (·.1) = false := by rfl) :
    PEk X (.Call (.Name x p) (e :: es) [] pos) (tCall sp [] E (tCons te ta)) := by
  obtain ⟨f, fd, F, o, m⟩ := c.ex
  intro pins s σ H Q I h
  refine wpAny_Call_Name_kw (ld_glob I hg m ?_ hdb)
  refine PySem.W.callWith_K (h₀ := X.base) I.ok.mod.kin F.kp ?_ hs hpl
  rw [hs]
  refine Calls.spliced_cons (wpAny_mono (he pins s σ H _ I h) (fun v s1 ⟨k1, z1⟩ => ?_) fun _ _ z => z)
  obtain ⟨y, H1, I1, r1, q1⟩ := z1
  refine wpAny_mono (wpAny_toks_of k1 (ha.run pos pins s1 σ H1 _ I1 q1)) (fun us s2 ⟨k2, z2⟩ => ?_) fun _ _ z => z.2
  obtain ⟨vs, H2, I2, r2, q2⟩ := z2
  exact ⟨I2.kIn, wpAny_mono (wpAny_toks_of k2 (run_fn o (hr.mono hk) (F.binds b) .nil hx I2 (.cons r1 r2) q2)) (fun _ _ z => z) fun _ _ z => z.2⟩
def tRepl (y : Str) (to t2 : TE) : TE := fun σ H Q => to σ H fun x H1 => ∃ z, x = .str z ∧ t2 σ H1 fun i H2 => ∃ m : Int, i = .int m ∧ m.natAbs.log2 < 1920 ∧ ((y == (toString m : Str)) = false) ∧ z.length + (z.length + 1) * ((toString m : Str)).length ≤ 16777216 ∧ Q (.str (Txt.replace z y (toString m : Str))) H2
/-- o.replace("y", str(e)) -/
theorem pek_repl {y sn : Str} {n : Nat} {c q1 q2 : Pos} (ho : PEk X o to) (h2 : PE X e2 t2) (hg : Gl X sn) (hm : X.mg sn = none) (hv : bootBuiltins sn = some (.type "str"))
    (hst : starEach [.Constant (.str y) n c, .Call (.Name sn q1) [e2] [] q2] X.env = [(false, eval (.Constant (.str y) n c) X.env), (false, eval (.Call (.Name sn q1) [e2] [] q2) X.env)] := by rfl)
    (hbase : attributeBase o "replace" X.env (eval o X.env) = eval o X.env := by rfl) (hline : (apos.endLine == pos.line) = true := by rfl) (hn : sn ≠ "__name__" := by decide) (hdb : (sn == ("__debug__" : Str)) = false := by decide)
    (he : starEach [e2] X.env = (false, eval e2 X.env) :: starEach [] X.env := by rfl) :
    PEk X (.Call (.Attribute o "replace" apos) [.Constant (.str y) n c, .Call (.Name sn q1) [e2] [] q2] [] pos) (tRepl y to t2) := by
  intro pins s σ H Q I h
  refine PySem.Call_method2 hbase hst hline (wpAny_mono (ho pins s σ H _ I h) (fun v s1 ⟨k1, z1⟩ => ?_) fun _ _ z => z)
  obtain ⟨x, H1, I1, r1, z, rfl, qq1⟩ := z1
  obtain ⟨t, rfl⟩ := (show ∃ t, v = Value.str z t from r1)
  refine ⟨"str", _, F.plainAttrs_str, F.slot_str_replace, F.type_str_replace, typeIs_str _ _ _, (fun _ e => nomatch e), Calls.callWith_builtin rfl (Calls.evalArgs_plain (Calls.spliced_cons ?_))⟩
  refine wpAny_Constant_str (Calls.spliced_cons ?_)
  refine wpAny_Call_Name_kw (ld_blt (I1.tok _) hg hm hv ?_ hn hdb)
  refine PyProof.Rows.callWith_type1 ?_ he rfl
  rw [he]
  refine Calls.spliced_cons (wpAny_mono (wpAny_toks_of (n := s1.toks + 1) (Nat.le_refl _) (h2.run pins _ σ H1 _ (I1.tok _) qq1)) (fun u s3 ⟨k3, z3⟩ => ?_) fun _ _ z => z.2)
  obtain ⟨i, H2, I2, r2, m, rfl, hz, hy, hb, qq⟩ := z3
  obtain ⟨t3, rfl⟩ := (show ∃ t, u = Value.int m t from r2)
  refine Calls.spliced_nil (PySem.P.str_of_int hz (Calls.spliced_nil ?_))
  have hu : s1.toks ≠ 0 := by omega
  have hv3 : s3.toks ≠ 0 := by omega
  have huv : s1.toks ≠ s3.toks := by omega
  refine wpAny_mono (wpAny_toks_of (n := 1) (by show 1 ≤ s3.toks + 1; omega) (PySem.SC.replace hu hv3 huv hy hb fun t' k => ?_)) (fun _ _ z => z) fun _ _ z => z.2
  exact ⟨.str (Txt.replace z y (toString m : Str)), H2, I2.tok k, ⟨t', rfl⟩, qq⟩
end
/-! ### lists of points -/
section
variable {K : PySem.W.Frag} {H : Hp} {l : Addr} {js : List Addr} {fs : List (Int × Int)} {Q : VK}
theorem srt_rows (hl : SqL K H l (js.map V.ref)) (rj : Rows H js fs) (q : ∀ p qs rs, H p = none → Rows H qs rs → rs.Perm fs → rs.Pairwise (fun a b => SrtO.lexB b a = false) → Q (.ref p) (upd H p (.lst (qs.map V.ref)))) : rSortedPO K [.ref l] H Q := by
  refine ⟨l, js.map V.ref, kOf H, rfl, hl, fun x m => ?_, fun ys p sy pm hn => ?_⟩
  · obtain ⟨r, mr, rfl⟩ := List.mem_map.mp m
    obtain ⟨pp, rp⟩ := rows_mem rj r mr
    exact ⟨r, rfl, by rw [kOf_row rp]; exact rp⟩
  obtain ⟨ey, pe⟩ := refs_perm pm.perm
  rw [ey] at sy ⊢
  have rz : Rows H (ys.map unref) ((ys.map unref).map fun a => kOf H (.ref a)) := rows_all fun b hb => rows_mem rj b (pe.mem_iff.mp hb)
  refine q p _ _ hn rz ?_ ?_
  · rw [rows_get rj]
    exact pe.map _
  · exact List.pairwise_map.mpr (List.pairwise_map.mp sy)
theorem eq_pts {a b : Addr} {qs rs : List Addr} {ps : List (Int × Int)} (ha : H a = some (.lst (qs.map V.ref))) (ra : Rows H qs ps) (hb : H b = some (.lst (rs.map V.ref))) (rb : Rows H rs ps) (q : Q (.bl true) H) : rEqD K (.ref a) (.ref b) H Q := by
  refine ⟨_, _, .lst (SqL.of ha) (dp_pts ra), .lst (SqL.of hb) (dp_pts rb), shaped_pts ps, shaped_pts ps, ?_⟩
  rw [SeqAt.eqv_refl _ (SeqAt.canLay_of_shaped (shaped_pts ps))]
  exact q
end
theorem lex_irr {p : Int × Int} : ¬ Lex p p := fun h => h.elim (fun z => Int.lt_irrefl _ z) fun z => Int.lt_irrefl _ z.2
theorem lex_uniq : ∀ {ps qs : List (Int × Int)}, ps.Pairwise Lex → qs.Pairwise Lex → (∀ p, p ∈ ps ↔ p ∈ qs) → ps = qs
  | [], [], _, _, _ => rfl
  | [], q :: qs, _, _, h => absurd ((h q).mpr List.mem_cons_self) List.not_mem_nil
  | p :: ps, [], _, _, h => absurd ((h p).mp List.mem_cons_self) List.not_mem_nil
  | p :: ps, q :: qs, h1, h2, h => by
    obtain ⟨a1, b1⟩ := List.pairwise_cons.mp h1
    obtain ⟨a2, b2⟩ := List.pairwise_cons.mp h2
    have asym : ∀ {x y : Int × Int}, Lex x y → Lex y x → False := fun {x y} u v => by
      unfold Lex at u v
      omega
    have e : p = q := by
      rcases List.mem_cons.mp ((h p).mp List.mem_cons_self) with e | m
      · exact e
      · rcases List.mem_cons.mp ((h q).mpr List.mem_cons_self) with e | m'
        · exact e.symm
        · exact absurd (asym (a2 p m) (a1 q m')) id
    subst e
    rw [lex_uniq b1 b2 fun x => ?_]
    have hx := h x
    constructor
    · intro m
      rcases List.mem_cons.mp (hx.mp (List.mem_cons_of_mem _ m)) with z | z
      · rw [z] at m
        exact absurd (a1 p m) lex_irr
      · exact z
    · intro m
      rcases List.mem_cons.mp (hx.mpr (List.mem_cons_of_mem _ m)) with z | z
      · rw [z] at m
        exact absurd (a2 p m) lex_irr
      · exact z
end Lw
/-! Regions plainly: runs of a line (from, to, value), each as long as it can be; what they tell of a place tells them. -/
namespace Lw
section
variable {α : Type}
abbrev Run (α : Type) := Int × Int × α
/-- runs of positive length, in order; neighbours that touch differ -/
def Canon (rs : List (Run α)) : Prop := (∀ r ∈ rs, r.1 < r.2.1) ∧ rs.Pairwise fun r s => r.2.1 ≤ s.1 ∧ (r.2.1 = s.1 → r.2.2 ≠ s.2.2)
/-- the value at a place -/
def AtR (rs : List (Run α)) (y : Int) (v : α) : Prop := ∃ r ∈ rs, r.1 ≤ y ∧ y < r.2.1 ∧ r.2.2 = v
theorem canon_nil : Canon ([] : List (Run α)) := ⟨(fun _ m => by cases m), .nil⟩
theorem Canon.tail {r : Run α} {rs : List (Run α)} (c : Canon (r :: rs)) : Canon rs := ⟨fun z m => c.1 z (List.mem_cons_of_mem _ m), (List.pairwise_cons.mp c.2).2⟩
theorem Canon.after {r : Run α} {rs : List (Run α)} (c : Canon (r :: rs)) : ∀ z ∈ rs, r.2.1 ≤ z.1 := fun z m => ((List.pairwise_cons.mp c.2).1 z m).1
theorem atR_cons {r : Run α} {rs : List (Run α)} {y : Int} {v : α} : AtR (r :: rs) y v ↔ (r.1 ≤ y ∧ y < r.2.1 ∧ r.2.2 = v) ∨ AtR rs y v := by
  constructor
  · rintro ⟨z, m, h⟩
    rcases List.mem_cons.mp m with rfl | m
    · exact .inl h
    · exact .inr ⟨z, m, h⟩
  · rintro (h | ⟨z, m, h⟩)
    · exact ⟨r, List.mem_cons_self, h⟩
    · exact ⟨z, List.mem_cons_of_mem _ m, h⟩
theorem atR_ge {r : Run α} {rs : List (Run α)} {y : Int} {v : α} (c : Canon (r :: rs)) (h : AtR rs y v) : r.2.1 ≤ y := by
  obtain ⟨z, m, h1, _⟩ := h
  have := c.after z m
  omega
theorem atR_lo {r : Run α} {rs : List (Run α)} {y : Int} {v : α} (c : Canon (r :: rs)) (h : AtR (r :: rs) y v) : r.1 ≤ y := by
  rcases atR_cons.mp h with h | h
  · exact h.1
  · have := atR_ge c h
    have := c.1 r List.mem_cons_self
    omega
theorem canon_end {r s : Run α} {rs ss : List (Run α)} (c : Canon (r :: rs)) (d : Canon (s :: ss)) (h : ∀ y v, AtR (r :: rs) y v ↔ AtR (s :: ss) y v) (e1 : r.1 = s.1) (e2 : r.2.2 = s.2.2) : s.2.1 ≤ r.2.1 := by
  refine Decidable.byContradiction fun n => ?_
  have lr := c.1 r List.mem_cons_self
  have a : AtR (s :: ss) r.2.1 s.2.2 := atR_cons.mpr (.inl ⟨by omega, by omega, rfl⟩)
  rcases atR_cons.mp ((h _ _).mpr a) with b | ⟨z, m, z1, z2, z3⟩
  · omega
  · have lz := (List.pairwise_cons.mp c.2).1 z m
    exact lz.2 (by omega) (by rw [z3, e2])
theorem canon_uniq : ∀ {rs ss : List (Run α)}, Canon rs → Canon ss → (∀ y v, AtR rs y v ↔ AtR ss y v) → rs = ss
  | [], [], _, _, _ => rfl
  | [], s :: ss, _, d, h => by
    obtain ⟨z, m, _⟩ := (h s.1 s.2.2).mpr ⟨s, List.mem_cons_self, Int.le_refl _, d.1 s List.mem_cons_self, rfl⟩
    cases m
  | r :: rs, [], c, _, h => by
    obtain ⟨z, m, _⟩ := (h r.1 r.2.2).mp ⟨r, List.mem_cons_self, Int.le_refl _, c.1 r List.mem_cons_self, rfl⟩
    cases m
  | r :: rs, s :: ss, c, d, h => by
    have lr := c.1 r List.mem_cons_self
    have ls := d.1 s List.mem_cons_self
    have ar : AtR (r :: rs) r.1 r.2.2 := ⟨r, List.mem_cons_self, Int.le_refl _, lr, rfl⟩
    have as : AtR (s :: ss) s.1 s.2.2 := ⟨s, List.mem_cons_self, Int.le_refl _, ls, rfl⟩
    have e1 : r.1 = s.1 := by
      have a := atR_lo d ((h _ _).mp ar)
      have b := atR_lo c ((h _ _).mpr as)
      omega
    have e2 : r.2.2 = s.2.2 := by
      rcases atR_cons.mp ((h _ _).mp ar) with b | b
      · exact b.2.2.symm
      · have := atR_ge d b
        omega
    have e3 : r.2.1 = s.2.1 := by
      have a := canon_end c d h e1 e2
      have b := canon_end d c (fun y v => (h y v).symm) e1.symm e2.symm
      omega
    have er : r = s := Prod.ext e1 (Prod.ext e3 e2)
    subst er
    rw [canon_uniq c.tail d.tail fun y v => ?_]
    constructor
    · intro b
      have g := atR_ge c b
      rcases atR_cons.mp ((h y v).mp (atR_cons.mpr (.inr b))) with x | x
      · omega
      · exact x
    · intro b
      have g := atR_ge d b
      rcases atR_cons.mp ((h y v).mpr (atR_cons.mpr (.inr b))) with x | x
      · omega
      · exact x
theorem atR_app {rs ss : List (Run α)} {y : Int} {v : α} : AtR (rs ++ ss) y v ↔ AtR rs y v ∨ AtR ss y v := by
  constructor
  · rintro ⟨z, m, h⟩
    rcases List.mem_append.mp m with m | m
    · exact .inl ⟨z, m, h⟩
    · exact .inr ⟨z, m, h⟩
  · rintro (⟨z, m, h⟩ | ⟨z, m, h⟩)
    · exact ⟨z, List.mem_append_left _ m, h⟩
    · exact ⟨z, List.mem_append_right _ m, h⟩
theorem atR_one {r : Run α} {y : Int} {v : α} : AtR [r] y v ↔ r.1 ≤ y ∧ y < r.2.1 ∧ r.2.2 = v := by
  constructor
  · rintro ⟨z, m, h⟩
    rw [List.mem_singleton.mp m] at h
    exact h
  · exact fun h => ⟨r, List.mem_singleton.mpr rfl, h⟩
/-- one more run behind all -/
theorem canon_add {rs : List (Run α)} {r : Run α} (c : Canon rs) (l : r.1 < r.2.1) (h : ∀ z ∈ rs, z.2.1 ≤ r.1 ∧ (z.2.1 = r.1 → z.2.2 ≠ r.2.2)) : Canon (rs ++ [r]) := by
  refine ⟨fun z m => ?_, List.pairwise_append.mpr ⟨c.2, List.pairwise_singleton _ _, fun z m t n => ?_⟩⟩
  · rcases List.mem_append.mp m with m | m
    · exact c.1 z m
    · rw [List.mem_singleton.mp m]
      exact l
  · rw [List.mem_singleton.mp n]
    exact h z m
/-- only the last one can touch -/
theorem canon_last {rs : List (Run α)} {t r : Run α} (c : Canon (rs ++ [t])) (h : t.2.1 ≤ r.1) (n : t.2.1 = r.1 → t.2.2 ≠ r.2.2) : ∀ z ∈ rs ++ [t], z.2.1 ≤ r.1 ∧ (z.2.1 = r.1 → z.2.2 ≠ r.2.2) := fun z m => by
  rcases List.mem_append.mp m with m | m
  · have a := (List.pairwise_append.mp c.2).2.2 z m t (List.mem_singleton.mpr rfl)
    have b := c.1 t (List.mem_append_right _ (List.mem_singleton.mpr rfl))
    exact ⟨by omega, fun e => by omega⟩
  · rw [List.mem_singleton.mp m]
    exact ⟨h, n⟩
/-- the last run made longer -/
theorem canon_ext {rs : List (Run α)} {t : Run α} {b : Int} (c : Canon (rs ++ [t])) (h : t.1 < b) : Canon (rs ++ [(t.1, b, t.2.2)]) := by
  have d := List.pairwise_append.mp c.2
  refine ⟨fun z m => ?_, List.pairwise_append.mpr ⟨d.1, List.pairwise_singleton _ _, fun z m u n => ?_⟩⟩
  · rcases List.mem_append.mp m with m | m
    · exact c.1 z (List.mem_append_left _ m)
    · rw [List.mem_singleton.mp m]
      exact h
  · rw [List.mem_singleton.mp n]
    exact d.2.2 z m t (List.mem_singleton.mpr rfl)
theorem atR_ext {rs : List (Run α)} {t : Run α} {a b y : Int} {v : α} (h1 : t.1 ≤ a) (h2 : a ≤ t.2.1) (h3 : t.2.1 ≤ b) : AtR (rs ++ [(t.1, b, t.2.2)]) y v ↔ AtR (rs ++ [t]) y v ∨ (a ≤ y ∧ y < b ∧ t.2.2 = v) := by
  rw [atR_app, atR_app, atR_one, atR_one]
  constructor
  · rintro (h | ⟨h, k, e⟩)
    · exact .inl (.inl h)
    · by_cases q : y < t.2.1
      · exact .inl (.inr ⟨h, q, e⟩)
      · exact .inr ⟨by omega, k, e⟩
  · rintro ((h | ⟨h, k, e⟩) | ⟨h, k, e⟩)
    · exact .inl h
    · exact .inr ⟨h, by show y < b; omega, e⟩
    · exact .inr ⟨by show t.1 ≤ y; omega, k, e⟩
end
/-! ### stretches: runs without a value -/
abbrev Span := Int × Int
def asRun (s : Span) : Run Unit := (s.1, s.2, ())
def SpanC (ss : List Span) : Prop := Canon (ss.map asRun)
def InS (ss : List Span) (x : Int) : Prop := ∃ s ∈ ss, s.1 ≤ x ∧ x < s.2
theorem inS_at {ss : List Span} {x : Int} : AtR (ss.map asRun) x () ↔ InS ss x := by
  constructor
  · rintro ⟨r, m, h1, h2, _⟩
    obtain ⟨s, k, rfl⟩ := List.mem_map.mp m
    exact ⟨s, k, h1, h2⟩
  · rintro ⟨s, k, h1, h2⟩
    exact ⟨asRun s, List.mem_map.mpr ⟨s, k, rfl⟩, h1, h2, rfl⟩
theorem asRun_inj {a b : List Span} (h : a.map asRun = b.map asRun) : a = b := by
  have e : ∀ l : List Span, (l.map asRun).map (fun r => (r.1, r.2.1)) = l := fun l => by
    rw [List.map_map]
    exact List.map_id'' (fun _ => rfl) l
  rw [← e a, h, e b]
theorem span_uniq {a b : List Span} (ha : SpanC a) (hb : SpanC b) (h : ∀ x, InS a x ↔ InS b x) : a = b :=
  asRun_inj (canon_uniq ha hb fun y v => by
    cases v
    rw [inS_at, inS_at]
    exact h y)
theorem span_add {ss : List Span} {t s : Span} (c : SpanC (ss ++ [t])) (l : s.1 < s.2) (h : t.2 < s.1) : SpanC (ss ++ [t] ++ [s]) ∧ ∀ x, InS (ss ++ [t] ++ [s]) x ↔ InS (ss ++ [t]) x ∨ (s.1 ≤ x ∧ x < s.2) := by
  refine ⟨?_, fun x => ?_⟩
  · show Canon ((ss ++ [t] ++ [s]).map asRun)
    rw [List.map_append]
    refine canon_add c l ?_
    rw [List.map_append]
    have c' : Canon (ss.map asRun ++ [asRun t]) := by
      have := c
      unfold SpanC at this
      rw [List.map_append] at this
      exact this
    exact canon_last c' (by show t.2 ≤ s.1; omega) (fun e => absurd (show t.2 = s.1 from e) (by omega))
  · rw [← inS_at, ← inS_at, List.map_append, atR_app]
    refine or_congr Iff.rfl ?_
    show AtR [asRun s] x () ↔ _
    rw [atR_one]
    exact ⟨fun h => ⟨h.1, h.2.1⟩, fun h => ⟨h.1, h.2, rfl⟩⟩
theorem span_one {s : Span} (l : s.1 < s.2) : SpanC [s] ∧ ∀ x, InS [s] x ↔ s.1 ≤ x ∧ x < s.2 := by
  refine ⟨canon_add canon_nil l (fun z m => by cases m), fun x => ?_⟩
  constructor
  · rintro ⟨z, m, h⟩
    rw [List.mem_singleton.mp m] at h
    exact h
  · exact fun h => ⟨s, List.mem_singleton.mpr rfl, h⟩
theorem span_ext {ss : List Span} {t : Span} {a b : Int} (c : SpanC (ss ++ [t])) (h1 : t.1 ≤ a) (h2 : a ≤ t.2) (h3 : t.2 ≤ b) : SpanC (ss ++ [(t.1, b)]) ∧ ∀ x, InS (ss ++ [(t.1, b)]) x ↔ InS (ss ++ [t]) x ∨ (a ≤ x ∧ x < b) := by
  have c' : Canon (ss.map asRun ++ [asRun t]) := by
    have := c
    unfold SpanC at this
    rw [List.map_append] at this
    exact this
  have lt := c'.1 (asRun t) (List.mem_append_right _ (List.mem_singleton.mpr rfl))
  refine ⟨?_, fun x => ?_⟩
  · show Canon ((ss ++ [(t.1, b)]).map asRun)
    rw [List.map_append]
    exact canon_ext (t := asRun t) c' (by show t.1 < b; have : t.1 < t.2 := lt; omega)
  · rw [← inS_at, ← inS_at, List.map_append, List.map_append]
    have k := atR_ext (rs := ss.map asRun) (t := asRun t) (a := a) (b := b) (y := x) (v := ()) h1 h2 h3
    refine k.trans (or_congr Iff.rfl ?_)
    exact ⟨fun h => ⟨h.1, h.2.1⟩, fun h => ⟨h.1, h.2, rfl⟩⟩
/-! ### bands: runs of rows with the same stretches -/
theorem atR_fun {α : Type} : ∀ {rs : List (Run α)} {y : Int} {v w : α}, Canon rs → AtR rs y v → AtR rs y w → v = w
  | [], _, _, _, _, ⟨_, m, _⟩, _ => by cases m
  | r :: rs, y, v, w, c, a, b => by
    rcases atR_cons.mp a with x | x
    · rcases atR_cons.mp b with z | z
      · rw [← x.2.2, z.2.2]
      · have := atR_ge c z
        omega
    · rcases atR_cons.mp b with z | z
      · have := atR_ge c x
        omega
      · exact atR_fun c.tail x z
abbrev Band := Run (List Span)
def BandC (bs : List Band) : Prop := Canon bs ∧ ∀ b ∈ bs, SpanC b.2.2 ∧ b.2.2 ≠ []
/-- the point x, y is one of the bands' -/
def PtB (bs : List Band) (x y : Int) : Prop := ∃ v, AtR bs y v ∧ InS v x
theorem inS_some {ss : List Span} (c : SpanC ss) (h : ss ≠ []) : ∃ x, InS ss x := by
  obtain ⟨s, m⟩ := List.exists_mem_of_ne_nil ss h
  exact ⟨s.1, s, m, Int.le_refl _, c.1 (asRun s) (List.mem_map.mpr ⟨s, m, rfl⟩)⟩
theorem band_at {bs cs : List Band} (hb : BandC bs) (hc : BandC cs) (h : ∀ x y, PtB bs x y ↔ PtB cs x y) {y : Int} {v : List Span} (a : AtR bs y v) : AtR cs y v := by
  obtain ⟨r, m, r1, r2, rfl⟩ := id a
  obtain ⟨sv, nv⟩ := hb.2 r m
  obtain ⟨x, hx⟩ := inS_some sv nv
  obtain ⟨w, aw, hw⟩ := (h x y).mp ⟨_, a, hx⟩
  obtain ⟨s, n, s1, s2, rfl⟩ := id aw
  rw [span_uniq sv (hc.2 s n).1 fun z => ?_]
  · exact aw
  · constructor
    · intro k
      obtain ⟨w', aw', hw'⟩ := (h z y).mp ⟨_, a, k⟩
      rw [← atR_fun hc.1 aw' aw]
      exact hw'
    · intro k
      obtain ⟨w', aw', hw'⟩ := (h z y).mpr ⟨_, aw, k⟩
      rw [← atR_fun hb.1 aw' a]
      exact hw'
theorem band_uniq {bs cs : List Band} (hb : BandC bs) (hc : BandC cs) (h : ∀ x y, PtB bs x y ↔ PtB cs x y) : bs = cs :=
  canon_uniq hb.1 hc.1 fun _ _ => ⟨band_at hb hc h, band_at hc hb fun x y => (h x y).symm⟩
theorem ptB_app {bs cs : List Band} {x y : Int} : PtB (bs ++ cs) x y ↔ PtB bs x y ∨ PtB cs x y := by
  constructor
  · rintro ⟨v, a, h⟩
    exact (atR_app.mp a).imp (fun z => ⟨v, z, h⟩) fun z => ⟨v, z, h⟩
  · rintro (⟨v, a, h⟩ | ⟨v, a, h⟩)
    · exact ⟨v, atR_app.mpr (.inl a), h⟩
    · exact ⟨v, atR_app.mpr (.inr a), h⟩
theorem ptB_one {b : Band} {x y : Int} : PtB [b] x y ↔ (b.1 ≤ y ∧ y < b.2.1) ∧ InS b.2.2 x := by
  constructor
  · rintro ⟨v, a, h⟩
    obtain ⟨h1, h2, rfl⟩ := atR_one.mp a
    exact ⟨⟨h1, h2⟩, h⟩
  · rintro ⟨⟨h1, h2⟩, h⟩
    exact ⟨_, atR_one.mpr ⟨h1, h2, rfl⟩, h⟩
theorem bandC_nil : BandC [] := ⟨canon_nil, fun b m => by cases m⟩
theorem bandC_one {b : Band} (l : b.1 < b.2.1) (c : SpanC b.2.2) (n : b.2.2 ≠ []) : BandC [b] := ⟨canon_add canon_nil l (fun z m => by cases m), fun z m => by
  rw [List.mem_singleton.mp m]
  exact ⟨c, n⟩⟩
/-- one more band behind all -/
theorem band_add {bs : List Band} {t b : Band} (hb : BandC (bs ++ [t])) (l : b.1 < b.2.1) (h : t.2.1 ≤ b.1) (n : t.2.1 = b.1 → t.2.2 ≠ b.2.2) (c : SpanC b.2.2) (e : b.2.2 ≠ []) :
    BandC (bs ++ [t] ++ [b]) ∧ ∀ x y, PtB (bs ++ [t] ++ [b]) x y ↔ PtB (bs ++ [t]) x y ∨ ((b.1 ≤ y ∧ y < b.2.1) ∧ InS b.2.2 x) := by
  refine ⟨⟨canon_add hb.1 l (canon_last hb.1 h n), fun z m => ?_⟩, fun x y => ?_⟩
  · rcases List.mem_append.mp m with m | m
    · exact hb.2 z m
    · rw [List.mem_singleton.mp m]
      exact ⟨c, e⟩
  · rw [ptB_app, ptB_one]
/-- the last band made longer -/
theorem band_ext {bs : List Band} {t : Band} {b : Int} (hb : BandC (bs ++ [t])) (l : t.2.1 ≤ b) : BandC (bs ++ [(t.1, b, t.2.2)]) ∧ ∀ x y, PtB (bs ++ [(t.1, b, t.2.2)]) x y ↔ PtB (bs ++ [t]) x y ∨ ((t.2.1 ≤ y ∧ y < b) ∧ InS t.2.2 x) := by
  have lt := hb.1.1 t (List.mem_append_right _ (List.mem_singleton.mpr rfl))
  refine ⟨⟨canon_ext hb.1 (by omega), fun z m => ?_⟩, fun x y => ?_⟩
  · rcases List.mem_append.mp m with m | m
    · exact hb.2 z (List.mem_append_left _ m)
    · rw [List.mem_singleton.mp m]
      exact hb.2 t (List.mem_append_right _ (List.mem_singleton.mpr rfl))
  · constructor
    · rintro ⟨v, a, h⟩
      rcases (atR_ext (a := t.2.1) (by omega) (Int.le_refl _) l).mp a with z | z
      · exact .inl ⟨v, z, h⟩
      · exact .inr ⟨⟨z.1, z.2.1⟩, by rw [z.2.2]; exact h⟩
    · rintro (⟨v, a, h⟩ | ⟨z, h⟩)
      · exact ⟨v, (atR_ext (a := t.2.1) (by omega) (Int.le_refl _) l).mpr (.inl a), h⟩
      · exact ⟨_, (atR_ext (a := t.2.1) (by omega) (Int.le_refl _) l).mpr (.inr ⟨z.1, z.2, rfl⟩), h⟩
/-! ### how many points -/
theorem nodup_len {β : Type} [DecidableEq β] : ∀ {ps qs : List β}, ps.Nodup → (∀ x ∈ ps, x ∈ qs) → ps.length ≤ qs.length
  | [], _, _, _ => Nat.zero_le _
  | p :: ps, qs, d, h => by
    have m := h p List.mem_cons_self
    obtain ⟨n, d'⟩ := List.nodup_cons.mp d
    have ih := nodup_len (ps := ps) (qs := qs.erase p) d' fun x k => (List.mem_erase_of_ne (fun e => n (by rw [← e]; exact k))).mpr (h x (List.mem_cons_of_mem _ k))
    rw [List.length_erase_of_mem m] at ih
    have : 0 < qs.length := List.length_pos_of_mem m
    rw [List.length_cons]
    omega
theorem same_len {β : Type} [DecidableEq β] {ps qs : List β} (a : ps.Nodup) (b : qs.Nodup) (h : ∀ x, x ∈ ps ↔ x ∈ qs) : ps.length = qs.length :=
  Nat.le_antisymm (nodup_len a fun x m => (h x).mp m) (nodup_len b fun x m => (h x).mpr m)
/-- the numbers from a on, below b -/
def upto (a b : Int) : List Int := (List.range (b - a).toNat).map fun (k : Nat) => a + (k : Int)
theorem mem_upto {a b x : Int} : x ∈ upto a b ↔ a ≤ x ∧ x < b := by
  unfold upto
  rw [List.mem_map]
  constructor
  · rintro ⟨k, m, rfl⟩
    have := List.mem_range.mp m
    omega
  · intro h
    exact ⟨(x - a).toNat, List.mem_range.mpr (by omega), by omega⟩
theorem len_upto {a b : Int} (h : a ≤ b) : ((upto a b).length : Int) = b - a := by
  unfold upto
  rw [List.length_map, List.length_range]
  omega
theorem asc_upto {a b : Int} : (upto a b).Pairwise (· < ·) := by
  unfold upto
  rw [List.pairwise_map]
  exact List.pairwise_lt_range.imp fun h => by omega
def cellsS (ss : List Span) : List Int := ss.flatMap fun s => upto s.1 s.2
theorem mem_cellsS {ss : List Span} {x : Int} : x ∈ cellsS ss ↔ InS ss x := by
  unfold cellsS InS
  rw [List.mem_flatMap]
  exact exists_congr fun s => and_congr Iff.rfl mem_upto
theorem asc_cellsS {ss : List Span} (c : SpanC ss) : (cellsS ss).Pairwise (· < ·) := by
  unfold cellsS
  rw [List.pairwise_flatMap]
  refine ⟨fun s _ => asc_upto, ?_⟩
  refine (List.pairwise_map.mp c.2).imp fun {s t} h x hx y hy => ?_
  have a := mem_upto.mp hx
  have b := mem_upto.mp hy
  have := h.1
  have : s.2 ≤ t.1 := this
  omega
theorem len_cellsS {ss : List Span} (c : SpanC ss) : ((cellsS ss).length : Int) = (ss.map fun s => s.2 - s.1).sum := by
  have l : ∀ s ∈ ss, s.1 < s.2 := fun s m => c.1 (asRun s) (List.mem_map.mpr ⟨s, m, rfl⟩)
  clear c
  unfold cellsS
  induction ss with
  | nil => rfl
  | cons s ss ih =>
    rw [List.flatMap_cons, List.length_append, List.map_cons, List.sum_cons, ← ih fun t m => l t (List.mem_cons_of_mem _ m), Int.natCast_add, len_upto (Int.le_of_lt (l s List.mem_cons_self))]
def cellsB (bs : List Band) : List (Int × Int) := bs.flatMap fun b => (upto b.1 b.2.1).flatMap fun y => (cellsS b.2.2).map fun x => (x, y)
theorem mem_cellsB {bs : List Band} {p : Int × Int} : p ∈ cellsB bs ↔ PtB bs p.1 p.2 := by
  unfold cellsB
  rw [List.mem_flatMap]
  constructor
  · rintro ⟨b, m, h⟩
    obtain ⟨y, hy, h⟩ := List.mem_flatMap.mp h
    obtain ⟨x, hx, rfl⟩ := List.mem_map.mp h
    have := mem_upto.mp hy
    exact ⟨_, ⟨b, m, this.1, this.2, rfl⟩, mem_cellsS.mp hx⟩
  · rintro ⟨v, ⟨b, m, h1, h2, rfl⟩, h⟩
    exact ⟨b, m, List.mem_flatMap.mpr ⟨p.2, mem_upto.mpr ⟨h1, h2⟩, List.mem_map.mpr ⟨p.1, mem_cellsS.mpr h, rfl⟩⟩⟩
theorem nodup_cellsB {bs : List Band} (h : BandC bs) : (cellsB bs).Nodup := by
  unfold cellsB
  have asc : (bs.flatMap fun b => (upto b.1 b.2.1).flatMap fun y => (cellsS b.2.2).map fun x => (x, y)).Pairwise fun p q => p.2 < q.2 ∨ p.2 = q.2 ∧ p.1 < q.1 := by
    rw [List.pairwise_flatMap]
    refine ⟨fun b m => ?_, h.1.2.imp fun {s t} k p hp q hq => ?_⟩
    · rw [List.pairwise_flatMap]
      refine ⟨fun y _ => ?_, asc_upto.imp fun {y z} k p hp q hq => ?_⟩
      · rw [List.pairwise_map]
        exact (asc_cellsS (h.2 b m).1).imp fun k => .inr ⟨rfl, k⟩
      · obtain ⟨x, _, rfl⟩ := List.mem_map.mp hp
        obtain ⟨x', _, rfl⟩ := List.mem_map.mp hq
        exact .inl k
    · obtain ⟨y, hy, hp⟩ := List.mem_flatMap.mp hp
      obtain ⟨z, hz, hq⟩ := List.mem_flatMap.mp hq
      obtain ⟨x, _, rfl⟩ := List.mem_map.mp hp
      obtain ⟨x', _, rfl⟩ := List.mem_map.mp hq
      have a := mem_upto.mp hy
      have b := mem_upto.mp hz
      exact .inl (by show y < z; have := k.1; omega)
  exact asc.imp fun {p q} k e => by
    rw [e] at k
    omega
/-- how many points the bands have -/
def countB (bs : List Band) : Int := (bs.map fun b => (b.2.1 - b.1) * (b.2.2.map fun s => s.2 - s.1).sum).sum
theorem len_rows {l : List Int} {cs : List Int} : ((l.flatMap fun y => cs.map fun x => (x, y)).length : Int) = (l.length : Int) * (cs.length : Int) := by
  induction l with
  | nil => rw [List.flatMap_nil]; simp
  | cons y l ih =>
    rw [List.flatMap_cons, List.length_append, List.length_map, Int.natCast_add, ih, List.length_cons, Int.natCast_add, Int.add_mul]
    omega
theorem len_cellsB {bs : List Band} (h : BandC bs) : ((cellsB bs).length : Int) = countB bs := by
  have l : ∀ b ∈ bs, b.1 < b.2.1 ∧ SpanC b.2.2 := fun b m => ⟨h.1.1 b m, (h.2 b m).1⟩
  clear h
  unfold cellsB countB
  induction bs with
  | nil => rfl
  | cons b bs ih =>
    obtain ⟨l1, l2⟩ := l b List.mem_cons_self
    rw [List.flatMap_cons, List.length_append, List.map_cons, List.sum_cons, ← ih fun t m => l t (List.mem_cons_of_mem _ m), Int.natCast_add, len_rows, len_upto (Int.le_of_lt l1), len_cellsS l2]
theorem count_pts {bs : List Band} {ps : List (Int × Int)} (h : BandC bs) (nd : ps.Nodup) (m : ∀ p, p ∈ ps ↔ PtB bs p.1 p.2) : (ps.length : Int) = countB bs := by
  rw [← len_cellsB h, same_len nd (nodup_cellsB h) fun p => (m p).trans mem_cellsB.symm]
/-! ### the sweep over the edges -/
theorem edge_at : ∀ {es : List Int} {y a b : Int}, es.Pairwise (· < ·) → a ∈ es → b ∈ es → a ≤ y → y < b → ∃ (i : Nat) (c d : Int), es[i]? = some c ∧ es[i + 1]? = some d ∧ c ≤ y ∧ y < d
  | [], _, _, _, _, h, _, _, _ => by cases h
  | [e], _, a, b, _, h1, h2, h3, h4 => by
    rw [List.mem_singleton.mp h1] at h3
    rw [List.mem_singleton.mp h2] at h4
    omega
  | e :: f :: es, y, a, b, p, h1, h2, h3, h4 => by
    by_cases c : y < f
    · refine ⟨0, e, f, rfl, rfl, ?_, c⟩
      rcases List.mem_cons.mp h1 with rfl | m
      · exact h3
      · rcases List.mem_cons.mp m with rfl | m
        · omega
        · have := (List.pairwise_cons.mp (List.pairwise_cons.mp p).2).1 a m
          omega
    · have hb : b ∈ f :: es := by
        rcases List.mem_cons.mp h2 with rfl | m
        · have := (List.pairwise_cons.mp p).1 f List.mem_cons_self
          omega
        · exact m
      obtain ⟨i, c', d, e1, e2, e3, e4⟩ := edge_at (List.pairwise_cons.mp p).2 (List.mem_cons_self (a := f)) hb (by omega) h4
      exact ⟨i + 1, c', d, by rw [List.getElem?_cons_succ]; exact e1, by rw [List.getElem?_cons_succ]; exact e2, e3, e4⟩
theorem edge_no {es : List Int} {i : Nat} {c d z : Int} (p : es.Pairwise (· < ·)) (h1 : es[i]? = some c) (h2 : es[i + 1]? = some d) (m : z ∈ es) : z ≤ c ∨ d ≤ z := by
  obtain ⟨j, hj, e⟩ := List.getElem_of_mem m
  obtain ⟨l1, e1⟩ := List.getElem?_eq_some_iff.mp h1
  obtain ⟨l2, e2⟩ := List.getElem?_eq_some_iff.mp h2
  by_cases k : j ≤ i
  · by_cases k2 : j = i
    · subst k2
      omega
    · have := List.pairwise_iff_getElem.mp p j i hj l1 (by omega)
      omega
  · by_cases k2 : j = i + 1
    · subst k2
      omega
    · have := List.pairwise_iff_getElem.mp p (i + 1) j l2 hj (by omega)
      omega
/-- what the sweep makes -/
theorem sweep {ws : List Box} {es : List Int} {cs : List Band} (pos : ∀ r ∈ ws, 0 < r.2.2.1 ∧ 0 < r.2.2.2) (asc : es.Pairwise (· < ·)) (edges : ∀ z, z ∈ es ↔ ∃ r ∈ ws, z = r.2.1 ∨ z = r.2.1 + r.2.2.2)
    (len : cs.length + 1 = es.length ∨ es = [] ∧ cs = [])
    (h : ∀ (i : Nat) (c : Band), cs[i]? = some c → ∃ a b, es[i]? = some a ∧ es[i + 1]? = some b ∧ c.1 = a ∧ c.2.1 = b ∧ SpanC c.2.2 ∧ ∀ x, InS c.2.2 x ↔ ∃ r ∈ ws, (r.2.1 ≤ a ∧ a < r.2.1 + r.2.2.2) ∧ r.1 ≤ x ∧ x < r.1 + r.2.2.1) :
    (∀ b ∈ cs, b.1 ≤ b.2.1 ∧ SpanC b.2.2) ∧ cs.Pairwise (fun b c => b.2.1 ≤ c.1) ∧ ∀ x y, PtB cs x y ↔ ∃ r ∈ ws, InBox r (x, y) := by
  have step : ∀ {i : Nat} {a b : Int}, es[i]? = some a → es[i + 1]? = some b → a < b := fun {i a b} ha hb => by
    obtain ⟨l1, e1⟩ := List.getElem?_eq_some_iff.mp ha
    obtain ⟨l2, e2⟩ := List.getElem?_eq_some_iff.mp hb
    have := List.pairwise_iff_getElem.mp asc i (i + 1) l1 l2 (by omega)
    omega
  refine ⟨fun c m => ?_, List.pairwise_iff_getElem.mpr fun i j hi hj ij => ?_, fun x y => ?_⟩
  · obtain ⟨i, hi, e⟩ := List.getElem_of_mem m
    obtain ⟨a, b, ha, hb, e1, e2, sc, _⟩ := h i c (by rw [List.getElem?_eq_getElem hi, e])
    have := step ha hb
    exact ⟨by omega, sc⟩
  · obtain ⟨a, b, ha, hb, e1, e2, _⟩ := h i _ (List.getElem?_eq_getElem hi)
    obtain ⟨a', b', ha', hb', e1', e2', _⟩ := h j _ (List.getElem?_eq_getElem hj)
    rw [e2, e1']
    obtain ⟨l1, q1⟩ := List.getElem?_eq_some_iff.mp hb
    obtain ⟨l2, q2⟩ := List.getElem?_eq_some_iff.mp ha'
    by_cases k : i + 1 = j
    · subst k
      omega
    · have := List.pairwise_iff_getElem.mp asc (i + 1) j l1 l2 (by omega)
      omega
  · constructor
    · rintro ⟨v, ⟨c, m, h1, h2, rfl⟩, hx⟩
      obtain ⟨i, hi, e⟩ := List.getElem_of_mem m
      obtain ⟨a, b, ha, hb, e1, e2, _, ins⟩ := h i c (by rw [List.getElem?_eq_getElem hi, e])
      obtain ⟨r, mr, ⟨r1, r2⟩, r3, r4⟩ := (ins x).mp hx
      have := edge_no asc ha hb ((edges _).mpr ⟨r, mr, .inr rfl⟩)
      exact ⟨r, mr, r3, r4, by show r.2.1 ≤ y; omega, by show y < r.2.1 + r.2.2.2; omega⟩
    · rintro ⟨r, mr, b1, b2, b3, b4⟩
      have b3' : r.2.1 ≤ y := b3
      have b4' : y < r.2.1 + r.2.2.2 := b4
      obtain ⟨i, a, b, ha, hb, y1, y2⟩ := edge_at asc ((edges _).mpr ⟨r, mr, .inl rfl⟩) ((edges _).mpr ⟨r, mr, .inr rfl⟩) b3' b4'
      have li := (List.getElem?_eq_some_iff.mp hb).1
      have lc : i < cs.length := by
        rcases len with l | ⟨l, _⟩
        · omega
        · rw [l] at li
          exact absurd li (Nat.not_lt_zero _)
      obtain ⟨a', b', ha', hb', e1, e2, _, ins⟩ := h i _ (List.getElem?_eq_getElem lc)
      rw [ha] at ha'
      rw [hb] at hb'
      cases ha'
      cases hb'
      have := edge_no asc ha hb ((edges _).mpr ⟨r, mr, .inl rfl⟩)
      exact ⟨_, ⟨cs[i], List.getElem_mem lc, by omega, by omega, rfl⟩, (ins x).mpr ⟨r, mr, ⟨by omega, by omega⟩, b1, b2⟩⟩
end Lw
/-! sorted of tuples of four ints, by the first, then the second, the third, the fourth. -/
namespace Lw
open PySem PySem.Spec PyProof.Rows L2 Evl SrtO
abbrev Quad := Int × Int × Int × Int
def IsQ (h : Heap) (v : Value) (p : Quad) : Prop := ∃ (a : Addr) (o : Obj) (t1 t2 t3 t4 : Tok) (n : Nat), v = .ref a ∧ h.get? a = some o ∧ o.cls = .type "tuple" ∧ o.data = .seq #[.int p.1 t1, .int p.2.1 t2, .int p.2.2.1 t3, .int p.2.2.2 t4] n
def lexQ (p q : Quad) : Bool := if p.1 = q.1 then (if p.2.1 = q.2.1 then (if p.2.2.1 = q.2.2.1 then decide (p.2.2.2 < q.2.2.2) else decide (p.2.2.1 < q.2.2.1)) else decide (p.2.1 < q.2.1)) else decide (p.1 < q.1)
theorem lexQ_iff {p q : Quad} : lexQ p q = true ↔ p.1 < q.1 ∨ p.1 = q.1 ∧ (p.2.1 < q.2.1 ∨ p.2.1 = q.2.1 ∧ (p.2.2.1 < q.2.2.1 ∨ p.2.2.1 = q.2.2.1 ∧ p.2.2.2 < q.2.2.2)) := by
  unfold lexQ
  by_cases e : p.1 = q.1
  · by_cases e2 : p.2.1 = q.2.1
    · by_cases e3 : p.2.2.1 = q.2.2.1
      · rw [if_pos e, if_pos e2, if_pos e3, decide_eq_true_eq]
        omega
      · rw [if_pos e, if_pos e2, if_neg e3, decide_eq_true_eq]
        omega
    · rw [if_pos e, if_neg e2, decide_eq_true_eq]
      omega
  · rw [if_neg e, decide_eq_true_eq]
    omega
theorem lexQ_no {p q : Quad} : lexQ p q = false ↔ ¬ (p.1 < q.1 ∨ p.1 = q.1 ∧ (p.2.1 < q.2.1 ∨ p.2.1 = q.2.1 ∧ (p.2.2.1 < q.2.2.1 ∨ p.2.2.1 = q.2.2.1 ∧ p.2.2.2 < q.2.2.2))) := by
  rw [← lexQ_iff]
  cases lexQ p q <;> simp
theorem swo_lexQ {α : Type} (k : α → Quad) : Swo fun v u : α => lexQ (k v) (k u) := by
  refine ⟨fun x y h => ?_, fun x y z h1 h2 => ?_⟩
  · have a := lexQ_iff.mp h
    refine lexQ_no.mpr ?_
    omega
  · have a := lexQ_no.mp h1
    have b := lexQ_no.mp h2
    refine lexQ_no.mpr ?_
    omega
section
variable {prog : Program} {w : World} {A : Around} {E : Value → Shared → Prop} {s : Shared}
theorem quad_cmp {vs : List Value} {k : Value → Quad} (hp : ∀ v ∈ vs, IsQ s.heap v (k v)) : Cmp prog w A s (tuples' true) (fun p => p.1 ∈ vs) (lt2 fun v u => lexQ (k v) (k u)) := by
  intro p q hm hm'
  have h1 := hp _ hm
  have h2 := hp _ hm'
  show wpAny (model prog w) A (keyLt' (tuples' true) p.1 q.1) (fun r s' => s' = s ∧ r = lexQ (k p.1) (k q.1)) (fun _ _ => False) s
  unfold lexQ
  generalize k p.1 = x at h1 ⊢
  generalize k q.1 = y at h2 ⊢
  obtain ⟨x1, x2, x3, x4⟩ := x
  obtain ⟨y1, y2, y3, y4⟩ := y
  obtain ⟨a, o, t1, t2, t3, t4, n, e, ho, hc, hd⟩ := h1
  obtain ⟨a', o', u1, u2, u3, u4, n', e', ho', hc', hd'⟩ := h2
  rw [e, e']
  refine PySem.W.kat_lt ho hd ho' hd' ?_
  show PySem.W.KatLex prog w A true (decide (4 < 4)) _ [(.int x1 t1, .int y1 u1), (.int x2 t2, .int y2 u2), (.int x3 t3, .int y3 u3), (.int x4 t4, .int y4 u4)] 0 s
  refine PySem.W.kat_cons (SeqAt.EqAt.int_int x1 t1 y1 u1 prog w _ _ ?_)
  refine PySem.W.kat_go (fun e1 => ?_) (fun e1 => ?_)
  · have q1 : x1 = y1 := by simpa using e1
    refine PySem.W.kat_yes (PySem.W.kat_cons (SeqAt.EqAt.int_int x2 t2 y2 u2 prog w _ _ ?_))
    refine PySem.W.kat_go (fun e2 => ?_) (fun e2 => ?_)
    · have q2 : x2 = y2 := by simpa using e2
      refine PySem.W.kat_yes (PySem.W.kat_cons (SeqAt.EqAt.int_int x3 t3 y3 u3 prog w _ _ ?_))
      refine PySem.W.kat_go (fun e3 => ?_) (fun e3 => ?_)
      · have q3 : x3 = y3 := by simpa using e3
        refine PySem.W.kat_yes (PySem.W.kat_cons (SeqAt.EqAt.int_int x4 t4 y4 u4 prog w _ _ ?_))
        refine PySem.W.kat_go (fun e4 => ?_) (fun e4 => ?_)
        · have q4 : x4 = y4 := by simpa using e4
          refine PySem.W.kat_yes (PySem.W.kat_nil ⟨rfl, ?_⟩)
          simp [q1, q2, q3, q4]
        · refine PySem.W.kat_no (PySem.W.kat_one _ _ (PyProof.Rows.lt_int ⟨rfl, ?_⟩))
          simp [q1, q2, q3]
      · have q3 : ¬ x3 = y3 := by simpa using e3
        refine PySem.W.kat_no (PySem.W.kat_one _ _ (PyProof.Rows.lt_int ⟨rfl, ?_⟩))
        simp [q1, q2, q3]
    · have q2 : ¬ x2 = y2 := by simpa using e2
      refine PySem.W.kat_no (PySem.W.kat_one _ _ (PyProof.Rows.lt_int ⟨rfl, ?_⟩))
      simp [q1, q2]
  · have q1 : ¬ x1 = y1 := by simpa using e1
    refine PySem.W.kat_no (oneLt_int ⟨rfl, ?_⟩)
    simp [q1]
theorem IsQ.keeps {h h' : Heap} {v : Value} {x : Quad} (p : IsQ h v x) (k : ∀ b o, h.get? b = some o → o.cls = .type "tuple" → h'.get? b = some o) : IsQ h' v x := by
  obtain ⟨a, o, t1, t2, t3, t4, n, e, ho, hc, hd⟩ := p
  exact ⟨a, o, t1, t2, t3, t4, n, e, k _ _ ho hc, hc, hd⟩
theorem firstsQ {h : Heap} : ∀ {vs : List Value}, (∀ v ∈ vs, ∃ x, IsQ h v x) → ∃ fs : List Value, PySem.W.KatTups h vs fs ∧ fs.length = vs.length ∧ ∀ f ∈ fs, ∃ x t, f = Value.int x t
  | [], _ => ⟨[], PySem.W.KatTups.nil, rfl, fun _ hm => by simp at hm⟩
  | v :: vs, hp => by
    obtain ⟨fs, h1, h2, h3⟩ := firstsQ (vs := vs) fun u hm => hp u (List.mem_cons_of_mem _ hm)
    obtain ⟨x, a, o, t1, t2, t3, t4, n, e, ho, hc, hd⟩ := hp v List.mem_cons_self
    subst e
    refine ⟨.int x.1 t1 :: fs, PySem.W.KatTups.cons ho hc hd rfl h1, by rw [List.length_cons, List.length_cons, h2], fun f hm => ?_⟩
    rcases List.mem_cons.mp hm with rfl | hm
    · exact ⟨_, _, rfl⟩
    · exact h3 f hm
theorem quads_sortable {a : Addr} {vs : List Value} {k : Value → Quad} (h0 : 0 < vs.length) (hp : ∀ v ∈ vs, IsQ s.heap v (k v)) (ha : ∀ o, s.heap.get? a = some o → o.cls ≠ .type "tuple") : SortableO prog w A s a vs fun v u => lexQ (k v) (k u) := by
  intro h' keep
  have hp' : ∀ v ∈ vs, IsQ h' v (k v) := fun v hm => (hp v hm).keeps fun b o e c => keep b o (fun z => by subst z; exact ha o e c) e
  obtain ⟨fs, h1, h2, h3⟩ := firstsQ fun v hm => ⟨_, hp' v hm⟩
  refine ⟨tuples' true, fun Q E hq => ?_, quad_cmp hp'⟩
  refine PySem.W.kat_kind (T := .type "int") h1 (by omega) (fun f hm => ?_) (by rfl) ?_
  · obtain ⟨x, t, rfl⟩ := h3 f hm
    exact PySem.W.Looks.now
  · have e : (Value.type "int" != Value.type "tuple") = true := by first | decide +kernel | rfl | decide
    rw [e]
    exact hq
theorem sorted_quads {l : Addr} {vs : List Value} {k : Value → Quad} {Q : Value → Shared → Prop} (hl : s.heap.IsList l vs.toArray) (hz : vs.length ≤ sizeLine) (hp : ∀ v ∈ vs, IsQ s.heap v (k v))
    (h : ∀ (h' : Heap) (d : Addr) (out : List Value), Srtd (fun v u => lexQ (k v) (k u)) out → Stb (fun v u => lexQ (k v) (k u)) out vs → (∀ b o, s.heap.get? b = some o → h'.get? b = some o) → s.heap.objs.size ≤ d → (∃ n, h'.get? d = some (seqObj "list" out.toArray n)) → Q (.ref d) { s with heap := h' }) :
    wpAny (model prog w) A (call (.builtin "sorted") [.ref l]) Q E s := by
  refine sorted_ord (swo_lexQ k) hl hz (fun h2 h₁ a ha kk => ?_) fun out hs hb => ?_
  · refine quads_sortable (s := { s with heap := h₁ }) (by omega) (fun v hm => (hp v hm).keeps fun b o e _ => (kk b o e).2) fun o e => ?_
    have e' : some o = some (seqObj "list" vs.toArray 0) := e.symm.trans ha
    cases e'
    intro c
    exact absurd (Value.type.inj c) (by decide)
  · exact h _ _ out hs hb (fun b o e => sortedAll_old e) (Nat.le_succ _) (sortedAll_at s.heap vs out.toArray)
end
abbrev ltQ (k : V → Quad) (x y : V) : Bool := lexQ (k x) (k y)
/-- sorted(xs), xs a list of tuples of four ints (k says which) -/
def rSortedQ (K : PySem.W.Frag) : List V → Hp → VK → Prop := fun vs H Q => ∃ (a : Addr) (xs : List V) (k : V → Quad), vs = [V.ref a] ∧ SqL K H a xs ∧ (∀ x ∈ xs, ∃ t, x = V.ref t ∧ H t = some (.tup [.int (k x).1, .int (k x).2.1, .int (k x).2.2.1, .int (k x).2.2.2])) ∧
  ∀ ys p, Srtd (ltQ k) ys → Stb (ltQ k) ys xs → H p = none → Q (.ref p) (upd H p (.lst ys))
section
variable {X : Cx}
theorem cr_sortedQ : CallR X (.builtin "sorted") (rSortedQ X.K) := by
  intro pins s σ H vs us Q I r h
  obtain ⟨a, xs, k, rfl, hs, hx, q⟩ := h
  obtain ⟨its, rv, hl, hz⟩ := I.list hs
  obtain ⟨u, rfl, ru⟩ := vals1 r
  obtain rfl : u = Value.ref a := ru
  obtain ⟨e1, e2⟩ := refs_back rv fun x m => by
    obtain ⟨t, e, _⟩ := hx x m
    exact ⟨t, e⟩
  refine sorted_quads (k := fun u => k (backV u)) hl.isList (by rw [← rv.length]; exact hz) (fun v hv => ?_) fun h' d out h1 h2 kp hd hn => ?_
  · obtain ⟨t, rfl⟩ := e2 v hv
    have hm : V.ref t ∈ xs := by rw [e1]; exact List.mem_map.mpr ⟨_, hv, rfl⟩
    obtain ⟨t', e, ht⟩ := hx _ hm
    cases e
    obtain ⟨_, its2, r2, o, ho, hc, n, hd⟩ := I.hok _ _ ht
    obtain ⟨u1, u2, u3, u4, rfl, ⟨t1, rfl⟩, ⟨t2, rfl⟩, ⟨t3, rfl⟩, ⟨t4, rfl⟩⟩ : ∃ u1 u2 u3 u4, its2 = [u1, u2, u3, u4] ∧ RelV (.int (k (.ref t)).1) u1 ∧ RelV (.int (k (.ref t)).2.1) u2 ∧ RelV (.int (k (.ref t)).2.2.1) u3 ∧ RelV (.int (k (.ref t)).2.2.2) u4 := by
      cases r2 with
      | cons a1 r2 => cases r2 with
        | cons a2 r2 => cases r2 with
          | cons a3 r2 => cases r2 with
            | cons a4 r2 =>
              cases r2
              exact ⟨_, _, _, _, rfl, a1, a2, a3, a4⟩
    exact ⟨t, o, t1, t2, t3, t4, n, rfl, ho, hc, hd⟩
  · have h3 : ∀ u ∈ out, ∃ a, u = Value.ref a := fun u hu => e2 u (h2.perm.mem_iff.mp hu)
    obtain ⟨n, hn⟩ := hn
    have hb : Stb (ltQ k) (out.map backV) xs := by
      rw [e1]
      exact Stb.map (swo_lexQ k) backV h2
    refine ⟨.ref d, upd H d (.lst (out.map backV)), I.laid (t' := s.toks) kp hd ⟨?_, out, n, vals_back h3, hn⟩, rfl, q _ d (srtd_map h1) hb (I.hok.fresh hd)⟩
    rw [hb.len]
    exact hz
end
def kOfQ (H : Hp) : V → Quad
  | .ref a => match H a with
    | some (.tup [.int x, .int y, .int z, .int u]) => (x, y, z, u)
    | _ => (0, 0, 0, 0)
  | _ => (0, 0, 0, 0)
theorem kOfQ_box {H : Hp} {a : Addr} {b : Box} (h : BoxAt H a b) : kOfQ H (.ref a) = b := by
  show (match H a with
    | some (.tup [.int x, .int y, .int z, .int u]) => (x, y, z, u)
    | _ => (0, 0, 0, 0)) = b
  rw [show H a = some (.tup [.int b.1, .int b.2.1, .int b.2.2.1, .int b.2.2.2]) from h]
theorem boxes_mem {H : Hp} : ∀ {as : List Addr} {bs : List Box}, Boxes H as bs → ∀ a ∈ as, ∃ b, BoxAt H a b
  | _, _, .nil, _, m => by cases m
  | _, _, .cons h t, a, m => by
    rcases List.mem_cons.mp m with rfl | m
    · exact ⟨_, h⟩
    · exact boxes_mem t a m
theorem boxes_all {H : Hp} : ∀ {as : List Addr}, (∀ a ∈ as, ∃ b, BoxAt H a b) → Boxes H as (as.map fun a => kOfQ H (.ref a))
  | [], _ => .nil
  | a :: as, h => by
    obtain ⟨b, hb⟩ := h a List.mem_cons_self
    refine .cons ?_ (boxes_all fun c m => h c (List.mem_cons_of_mem _ m))
    show BoxAt H a (kOfQ H (.ref a))
    rw [kOfQ_box hb]
    exact hb
theorem boxes_get {H : Hp} : ∀ {as : List Addr} {bs : List Box}, Boxes H as bs → bs = as.map fun a => kOfQ H (.ref a)
  | _, _, .nil => rfl
  | _, _, .cons h t => by
    rw [List.map_cons, ← boxes_get t, kOfQ_box h]
theorem srt_boxes {K : PySem.W.Frag} {H : Hp} {l : Addr} {js : List Addr} {fs : List Box} {Q : VK} (hl : SqL K H l (js.map V.ref)) (rj : Boxes H js fs)
    (q : ∀ p qs rs, H p = none → Boxes H qs rs → rs.Perm fs → rs.Pairwise (fun a b => lexQ b a = false) → Q (.ref p) (upd H p (.lst (qs.map V.ref)))) : rSortedQ K [.ref l] H Q := by
  refine ⟨l, js.map V.ref, kOfQ H, rfl, hl, fun x m => ?_, fun ys p sy pm hn => ?_⟩
  · obtain ⟨r, mr, rfl⟩ := List.mem_map.mp m
    obtain ⟨b, hb⟩ := boxes_mem rj r mr
    exact ⟨r, rfl, by rw [kOfQ_box hb]; exact hb⟩
  obtain ⟨ey, pe⟩ := refs_perm pm.perm
  rw [ey] at sy ⊢
  refine q p _ _ hn (boxes_all fun b hb => boxes_mem rj b (pe.mem_iff.mp hb)) ?_ ?_
  · rw [boxes_get rj]
    exact pe.map _
  · exact List.pairwise_map.mpr (List.pairwise_map.mp sy)
end Lw
/-! sorted(set(xs)) of a list of ints, of any number. -/
namespace Lw
open PySem PySem.Spec PyProof.Rows L2 Evl
abbrev setE (w : World) : Obj := { cls := .type "set", dict := none, data := .set #[] 0 (.fresh 0 0 (!w.params.followText "set-order")) }
section
variable {P : Program} {w : World} {A : Around} {E : Value → Shared → Prop} {s : Shared}
/-- a new set, filled by what is handed in -/
theorem set_made {a : Value} {R : Shared → Prop}
    (h : codeAny (model P w) A.in1 (.call (.builtin "set.__init__") ⟨[.ref s.heap.objs.size, a], []⟩) (wants (fun r z => r = .none ∧ R z) E) { s with heap := s.heap.push (setE w) }) :
    wpAny (model P w) A (call (.type "set") [a]) (fun v z => v = .ref s.heap.objs.size ∧ R z) E s := by
  have fc := F.called_set
  obtain ⟨_, _, mro⟩ := fc.mro
  have made := fc.made
  have sub := fc.sub
  have nt := fc.notType
  have cc := fc.canCreate
  have tc := F.typeCall_set_1 a
  have il := fc.init.lookup
  have ib := fc.init.bind (.ref s.heap.objs.size)
  have hT : Shared.TypeIs { s with heap := s.heap.push (setE w) } (.ref s.heap.objs.size) "set" := ⟨_, Heap.get?_push_size _ rfl, rfl⟩
  apply wpAny_call
  apply codeAny_of_tree
  show wpAny _ _ (callAny (.type "set") ⟨[a], []⟩) _ _ _
  refine wpAny_pure ⟨Code.quiet_builtin _ (by decide +kernel), ?_⟩
  apply codeAny_builtin F.entry_type_call
  rw [Around.under_plain (weight_type_call_type ..) rfl]
  repeat (any_goals (first | assumption | wp_step))
  refine codeAny_mono (code_set_led1 a (E := fun e z => E e z) (Q₁ := fun o z => o = .ref s.heap.objs.size ∧ z = { s with heap := s.heap.push (setE w) }) ⟨rfl, rfl⟩) fun r z hr => ?_
  match r, hr with
  | .error _, hr => exact hr
  | .ok (.ret o), hr =>
    obtain ⟨e1, e2⟩ := hr
    subst e1 e2
    repeat (any_goals (first | assumption | wp_step))
    refine codeAny_mono h fun r2 z2 hr2 => ?_
    match r2, hr2 with
    | .error _, hr2 => exact hr2
    | .ok (.ret o2), hr2 =>
      obtain ⟨e3, q⟩ := hr2
      subst e3
      repeat (any_goals (first | assumption | wp_step))
      exact ⟨rfl, q⟩
theorem set_init_list {S l : Addr} {items : Array Value} {ns : List Int} {R : Shared → Prop} (hh : A.handled = none) (hS : s.heap.get? S = some (setE w)) (hl : s.heap.IsList l items) (ne : l ≠ S) (hi : IntsAre items.toList ns) (room : ns.length + 1 < scanBound)
    (q : ∀ h' k c, SetR w h' S (fun j => decide (j ∈ ns)) c → c ≤ ns.length → (∀ b o, b ≠ S → s.heap.get? b = some o → h'.get? b = some o) → R { s with heap := h', toks := k }) :
    codeAny (model P w) A (.call (.builtin "set.__init__") ⟨[.ref S, .ref l], []⟩) (wants (fun r z => r = .none ∧ R z) E) s := by
  have fc := F.called_set
  have size : items.size = ns.length := by
    have := hi.length
    rwa [Array.length_toList] at this
  have hT : s.TypeIs (.ref S) "set" := ⟨_, hS, rfl⟩
  have sub1 := F.sub_list_set
  have sub2 := F.sub_list_frozenset
  have nd : (Value.type "list" == Value.type "dict") = false := by decide
  have hl0 := hl
  obtain ⟨⟨cl, di, da, sl⟩, ho, hc, n, hd⟩ := hl
  dsimp only at hc hd
  subst hc hd
  apply codeAny_call_builtin fc.init.plain F.entry_set_init
  refine check_set_init_1 hT ?_
  unfold Builtin.«set.__init__» noKeywords Builtin.Frozenset.updateFrom
  generalize hI : pyIter = it
  wp_walk
  subst hI
  have lS : S < s.heap.objs.size := Heap.lt_size hS
  have ll : l < s.heap.objs.size := Heap.lt_size ho
  refine wpAny_pyIter_list hl0 ?_
  refine wpAny_bind (wpAny_runValue ?_)
  refine set_update_ints (ns := ns) ((Walks.list (by simpa using hh) _ l (Nat.ne_of_lt ll) items).toS) S ?_ size room (fun i v hv => ?_) _ 0 _ rfl (Nat.zero_le _) ⟨⟨_, Heap.get?_push_size _ rfl, rfl, rfl⟩, hl0.push _⟩ ⟨0, Nat.le_refl 0, setR_new_at (Heap.get?_push_of_some _ hS)⟩ fun z c hm hc R0 => ?_
  · intro m
    rcases List.mem_cons.mp m with m | m
    · exact absurd lS (by rw [m]; exact Nat.lt_irrefl _)
    · exact ne (List.mem_singleton.mp m).symm
  · have lt : i < ns.length := by rw [← size]; exact (Array.getElem?_eq_some_iff.mp hv).1
    obtain ⟨t, e⟩ := hi.int_at i v (by rw [Array.getElem?_toList]; exact hv)
    refine ⟨ns[i], t, List.getElem?_eq_getElem lt, ?_⟩
    rw [e, List.getD_eq_getElem?_getD, List.getElem?_eq_getElem lt] <;> rfl
  · obtain ⟨h', g2, d2, k2, o2⟩ := z
    have e1 : g2 = s.gens := hm.gens
    have e2 : d2 = s.drawn := hm.drawn
    have e3 : o2 = s.os := hm.os
    subst e1 e2 e3
    refine wpAny_pure (wpAny_pure ⟨rfl, q h' k2 c R0 (by rw [← size]; exact hc) fun b o nb e => ?_⟩)
    refine hm.heap b o (fun m => ?_) (Heap.get?_push_of_some _ e)
    rcases List.mem_cons.mp m with m | m
    · exact nb m
    · exact absurd (Heap.lt_size e) (by rw [List.mem_singleton.mp m]; exact Nat.lt_irrefl _)
theorem set_of_list {l : Addr} {items : Array Value} {ns : List Int} {Q : Value → Shared → Prop} (hh : A.handled = none) (hl : s.heap.IsList l items) (hi : IntsAre items.toList ns) (room : ns.length + 1 < scanBound)
    (q : ∀ h' k c, SetR w h' s.heap.objs.size (fun j => decide (j ∈ ns)) c → c ≤ ns.length → (∀ b o, s.heap.get? b = some o → h'.get? b = some o) → Q (.ref s.heap.objs.size) { s with heap := h', toks := k }) :
    wpAny (model P w) A (call (.type "set") [.ref l]) Q E s := by
  have ll : l < s.heap.objs.size := let ⟨_, ho, _⟩ := hl; Heap.lt_size ho
  refine wpAny_mono (set_made (R := fun z => Q (.ref s.heap.objs.size) z) (set_init_list (A := A.in1) (by simpa using hh) (Heap.get?_push_size _ rfl) (hl.push _) (Nat.ne_of_lt ll) hi room fun h' k c R0 hc kp => ?_)) (fun v z h => by rw [h.1]; exact h.2) fun _ _ h => h
  exact q h' k c R0 hc fun b o e => kp b o (Nat.ne_of_lt (Heap.lt_size e)) (Heap.get?_push_of_some _ e)
theorem sorted_of_set {a : Addr} {S : Int → Bool} {n : Nat} {Q : Value → Shared → Prop} (R : SetR w s.heap a S n) (hh : A.handled = none)
    (q : ∀ z p (out : Array Value) (c : Nat) (ns : List Int), (∀ b o, s.heap.get? b = some o → z.heap.get? b = some o) → z.gens = s.gens → z.os = s.os → s.heap.objs.size ≤ p → z.heap.get? p = some (seqObj "list" out c) →
      IntsAre out.toList ns → ns.Pairwise (· < ·) → (∀ k, k ∈ ns ↔ S k = true) → ns.length = n → n < scanBound → Q (.ref p) z) : wpAny (model P w) A (call (.builtin "sorted") [.ref a]) Q E s := by
  obtain ⟨o, es, ep, t, ho, ex, hd, good, nodup, mem, room, fit, size, ris, led⟩ := R
  apply Calls.call_function_entry kind_sorted plain_sorted entry_sorted (args_sorted1 _)
  unfold Builtin.«sorted»
  refine wpAny_bind (m := checkCount "sorted" 1 1 _) (wpAny_pure ?_)
  apply wpAny_bind
  refine collect_set (A := A.in1) hh ⟨o, ho, ex.1, hd⟩ fit room ris led fun z vs keep above hg hos pm => ?_
  have lv : vs.length = n := by rw [pm.length_eq, List.length_map, Array.length_toList, size]
  have room' : n < scanBound := by rw [← size]; exact room
  have isI : ∀ v ∈ vs, ∃ k tk, v = Value.int k tk := fun v hv => by
    obtain ⟨e, he, ev⟩ := List.mem_map.mp (pm.mem_iff.mp hv)
    obtain ⟨k, tk, h1, _⟩ := good e he
    exact ⟨k, tk, by rw [← ev, h1]⟩
  have hI := ints_of vs isI
  have line : vs.length ≤ sizeLine := by
    rw [lv, sizeLine_eq]
    unfold scanBound at room'
    omega
  refine wpAny_bind (wpAny_newList ?_ line)
  have hL : (z.heap.push (seqObj "list" vs.toArray 0)).get? z.heap.objs.size = some (seqObj "list" vs.toArray 0) := Heap.get?_push_size _ rfl
  apply wpAny_bind
  apply wpAny_holding
  refine wpAny_call_entry slot_list_sort ⟨_, hL, rfl⟩ entry_list_sort ?_ (args_list_sort _)
  refine list_sort_treeAny hL hI line fun out ns is perm asc => ⟨_, rfl, ?_⟩
  refine wpAny_pure ⟨_, rfl, ?_⟩
  have pn : ns.Perm (es.toList.map keyOf) := by
    have h := pm.map Builtin.Re.reRawOf
    rw [List.map_map] at h
    exact perm.trans h
  obtain ⟨c, hc⟩ := sortedHeap_at (vs := vs) (out := out) hL
  refine q _ _ out c ns (fun b u e => ?_) hg hos above hc is (lt_of_le_nodup ns asc (pn.nodup_iff.mpr nodup)) (fun k => ?_) ?_ room'
  · have e' := keep b u e
    have lt := Heap.lt_size e'
    refine Eq.trans (sortedHeap_old (Nat.ne_of_lt lt) ?_) (Heap.get?_push_of_some _ e')
    rw [Heap.size_push]
    exact Nat.lt_succ_of_lt lt
  · rw [pn.mem_iff, mem]
  · rw [pn.length_eq, List.length_map, Array.length_toList, size]
end
section
variable {X : Cx}
/-- set(xs), xs a list of ints -/
def rSetI (K : PySem.W.Frag) (w : World) : List V → Hp → VK → Prop := fun vs H Q => ∃ (l : Addr) (ns : List Int), vs = [V.ref l] ∧ SqL K H l (ns.map V.int) ∧ ns.length + 1 < scanBound ∧
  ∀ a c, H a = none → c ≤ ns.length → Q (.ref a) (upd H a (SetO w a (fun j => decide (j ∈ ns)) c))
theorem cr_setI (hc : X.calm = true) : CallR X (.type "set") (rSetI X.K X.w) := by
  intro pins s σ H vs us Q I r h
  obtain ⟨l, ns, rfl, hl, room, q⟩ := h
  rw [Vals.ref1 r]
  obtain ⟨its, rv, pl, _⟩ := I.list hl
  refine set_of_list (I.ok.hd hc) pl.isList (by simpa using rv.ints) room fun h' k c R hc keep => ?_
  exact ⟨.ref s.heap.objs.size, upd H s.heap.objs.size (SetO X.w s.heap.objs.size (fun j => decide (j ∈ ns)) c), I.laid (t' := k) keep (Nat.le_refl _) (setO_new R), rfl, q _ c (I.hok.fresh (Nat.le_refl _)) hc⟩
/-- sorted(s), s a set of ints of any number -/
def rSortSI (w : World) : List V → Hp → VK → Prop := fun vs H Q => ∃ (a : Addr) (S : Int → Bool) (n : Nat), vs = [V.ref a] ∧ H a = some (SetO w a S n) ∧
  ∀ (ns : List Int) (p : Addr), ns.Pairwise (· < ·) → (∀ k : Int, k ∈ ns ↔ S k = true) → ns.length = n → H p = none → Q (.ref p) (upd H p (.lst (ns.map V.int)))
theorem cr_sortSI (hc : X.calm = true) : CallR X (.builtin "sorted") (rSortSI X.w) := by
  intro pins s σ H vs us Q I r h
  obtain ⟨a, S, n, rfl, ha, q⟩ := h
  rw [Vals.ref1 r]
  refine sorted_of_set (setO_get I ha) (I.ok.hd hc) fun z p out c ns keep hg hos hp hget is asc mem len room => ?_
  have line : (ns.map V.int).length ≤ sizeLine := by
    rw [List.length_map, len, sizeLine_eq]
    unfold scanBound at room
    omega
  have fresh := I.hok.fresh hp
  obtain ⟨hz, gz, dz, kz, oz⟩ := z
  cases hos
  exact ⟨.ref p, upd H p (.lst (ns.map V.int)), I.call (ch := []) (Un.laid keep hp fresh) (I.hok.laid keep hp ⟨line, out.toList, c, vals_of_ints is, hget⟩) (show AllBare gz from (show gz = s.gens from hg) ▸ I.bare) (fun _ m => nomatch m), rfl, q ns p asc mem len fresh⟩
end
/-! what a sweep keeps: rows (y, x, w, h) in order, edges es, the rows that are alive behind the edge i - 1 -/
structure Swp (rows : List Quad) (es : List Int) (i kk : Nat) (ls : List Quad) : Prop where
  k1 : ∀ r ∈ ls, r ∈ rows.take kk
  k2 : ∀ r ∈ rows.take kk, r ∈ ls ∨ ∀ (j : Nat) (a : Int), i ≤ j → es[j]? = some a → r.1 + r.2.2.2 ≤ a
  k3 : ∀ r ∈ rows.take kk, ∀ (j : Nat) (a : Int), i ≤ j → es[j]? = some a → r.1 ≤ a
  k4 : ∀ r ∈ rows.drop kk, ∀ (j : Nat) (a : Int), j < i → es[j]? = some a → a < r.1
theorem swp_start {rows : List Quad} {es : List Int} : Swp rows es 0 0 [] := ⟨(fun _ m => nomatch m), (fun _ m => by rw [List.take_zero] at m; cases m), (fun _ m => by rw [List.take_zero] at m; cases m), fun _ _ j _ h => absurd h (Nat.not_lt_zero j)⟩
theorem take_more {α : Type} {rows : List α} {kk m : Nat} (h : kk ≤ m) : rows.take m = rows.take kk ++ (rows.take m).drop kk := by
  have e : (rows.take m).take kk = rows.take kk := by rw [List.take_take, Nat.min_eq_left h]
  rw [← e, List.take_append_drop]
theorem asc_at {es : List Int} (asc : es.Pairwise (· < ·)) {i j : Nat} {a b : Int} (h : i ≤ j) (ha : es[i]? = some a) (hb : es[j]? = some b) : a ≤ b := by
  obtain ⟨l1, e1⟩ := List.getElem?_eq_some_iff.mp ha
  obtain ⟨l2, e2⟩ := List.getElem?_eq_some_iff.mp hb
  rcases Nat.eq_or_lt_of_le h with e | lt
  · subst e
    omega
  · have := List.pairwise_iff_getElem.mp asc i j l1 l2 lt
    omega
theorem swp_next {rows : List Quad} {es : List Int} {i kk m : Nat} {ls : List Quad} {top : Int} (S : Swp rows es i kk ls) (asc : es.Pairwise (· < ·)) (srt : rows.Pairwise fun a b => lexQ b a = false) (pos : ∀ r ∈ rows, 0 < r.2.2.2) (ed : ∀ r ∈ rows, r.1 ∈ es)
    (ht : es[i]? = some top) (km : kk ≤ m) (got : ∀ r ∈ (rows.take m).drop kk, r.1 ≤ top) (fin : ∀ r, rows[m]? = some r → top < r.1) :
    Swp rows es (i + 1) m (ls.filter (fun r => decide (top < r.1 + r.2.2.2)) ++ (rows.take m).drop kk) ∧ ∀ r, r ∈ ls.filter (fun r => decide (top < r.1 + r.2.2.2)) ++ (rows.take m).drop kk ↔ r ∈ rows ∧ r.1 ≤ top ∧ top < r.1 + r.2.2.2 := by
  have tm := take_more (rows := rows) km
  have mem2 : ∀ r, r ∈ rows.take m ↔ r ∈ rows.take kk ∨ r ∈ (rows.take m).drop kk := fun r => by
    conv => lhs; rw [tm]
    exact List.mem_append
  have late : ∀ r ∈ rows.drop m, top < r.1 := fun r h => by
    have h2 : rows.drop m ≠ [] := fun z => by rw [z] at h; cases h
    have lt : m < rows.length := by
      rcases Nat.lt_or_ge m rows.length with l | l
      · exact l
      · exact absurd (List.drop_eq_nil_of_le l) h2
    rw [List.drop_eq_getElem_cons lt] at h
    have f := fin _ (List.getElem?_eq_getElem lt)
    rcases List.mem_cons.mp h with e | h
    · rw [e]; exact f
    · have pw := srt.sublist (List.drop_sublist m rows)
      rw [List.drop_eq_getElem_cons lt] at pw
      have := lexQ_no.mp ((List.pairwise_cons.mp pw).1 r h)
      omega
  have fresh : ∀ r ∈ (rows.take m).drop kk, r ∈ rows ∧ r.1 = top := fun r h => by
    have h1 : r ∈ rows := List.mem_of_mem_take (List.mem_of_mem_drop h)
    have h2 : r ∈ rows.drop kk := by
      rw [List.drop_take] at h
      exact List.mem_of_mem_take h
    obtain ⟨j, hj⟩ := List.getElem?_of_mem (ed r h1)
    have g := got r h
    rcases Nat.lt_or_ge j i with l | l
    · have := S.k4 r h2 j _ l hj
      omega
    · have := asc_at asc l ht hj
      exact ⟨h1, by omega⟩
  have all : ∀ r, r ∈ ls.filter (fun r => decide (top < r.1 + r.2.2.2)) ++ (rows.take m).drop kk ↔ r ∈ rows ∧ r.1 ≤ top ∧ top < r.1 + r.2.2.2 := fun r => by
    rw [List.mem_append, List.mem_filter, decide_eq_true_eq]
    constructor
    · rintro (⟨h1, h2⟩ | h)
      · have h3 := S.k1 r h1
        exact ⟨List.mem_of_mem_take h3, S.k3 r h3 i top (Nat.le_refl _) ht, h2⟩
      · obtain ⟨h1, h2⟩ := fresh r h
        have := pos r h1
        exact ⟨h1, by omega, by omega⟩
    · rintro ⟨h1, h2, h3⟩
      by_cases d : r ∈ rows.take m
      · rcases (mem2 r).mp d with d | d
        · rcases S.k2 r d with e | e
          · exact .inl ⟨e, h3⟩
          · have := e i top (Nat.le_refl _) ht
            omega
        · exact .inr d
      · rw [← List.take_append_drop m rows, List.mem_append] at h1
        have := late r (h1.resolve_left d)
        omega
  refine ⟨⟨fun r h => ?_, fun r h => ?_, fun r h j a hj ha => ?_, fun r h j a hj ha => ?_⟩, all⟩
  · rw [mem2]
    rcases List.mem_append.mp h with h | h
    · exact .inl (S.k1 r (List.mem_filter.mp h).1)
    · exact .inr h
  · rcases (mem2 r).mp h with d | d
    · rcases S.k2 r d with e | e
      · by_cases c : top < r.1 + r.2.2.2
        · exact .inl (List.mem_append_left _ (List.mem_filter.mpr ⟨e, decide_eq_true c⟩))
        · refine .inr fun j a hj ha => ?_
          have := asc_at asc (by omega : i ≤ j) ht ha
          omega
      · exact .inr fun j a hj ha => e j a (by omega) ha
    · exact .inl (List.mem_append_right _ d)
  · rcases (mem2 r).mp h with d | d
    · exact S.k3 r d j a (by omega) ha
    · have := asc_at asc (by omega : i ≤ j) ht ha
      have := got r d
      omega
  · have := late r h
    have := asc_at asc (Nat.le_of_lt_succ hj) ha ht
    omega
/-! a loop over zip of a list and a shorter one -/
theorem for_zipS {K : PySem.W.Frag} {a b : Addr} {xs ys : List V} {g : TG} {tb : TS} {D : Ends} {σ : L2.St} {H : Hp} (le : ys.length ≤ xs.length) (Pv : Nat → L2.St → Hp → Prop) (h0 : Pv 0 σ H) (at1 : ∀ i σ H, Pv i σ H → SqL K H a xs) (at2 : ∀ i σ H, Pv i σ H → SqL K H b ys)
    (hs : ∀ (i : Nat) (x y : V) (T : Addr) (σ : L2.St) (H : Hp), xs[i]? = some x → ys[i]? = some y → Pv i σ H → H T = none → g (.ref T) σ (upd H T (.tup [x, y])) fun σ2 H2 => tb { D with nx := Pv (i + 1), ct := Pv (i + 1), bk := D.nx } σ2 H2) (hd : ∀ σ H, Pv ys.length σ H → D.nx σ H) :
    ∃ W : Nat → Nat → L2.St → Hp → Prop, (∃ m, W 0 m σ H) ∧ ∀ i m σ H, W i m σ H →
      ((Itz K a b).stop i H ∧ D.nx σ H) ∨ ((Itz K a b).go i H ∧ ∃ N : L2.St → Hp → Prop, (∀ σ' H', N σ' H' → ∃ m', m' < m ∧ W (i + 1) m' σ' H') ∧ ∀ v H', (Itz K a b).yld i H v H' → g v σ H' fun σ2 H2 => tb { D with nx := N, ct := N, bk := D.nx } σ2 H2) := by
  refine ⟨fun i m σ H => i ≤ ys.length ∧ m = ys.length - i ∧ Pv i σ H, ⟨_, Nat.zero_le _, rfl, h0⟩, ?_⟩
  rintro i _ σ H ⟨hi, rfl, p⟩
  rcases Nat.eq_or_lt_of_le hi with e | lt
  · exact .inl ⟨⟨xs, ys, at1 i σ H p, at2 i σ H p, .inr (Nat.le_of_eq e.symm)⟩, hd σ H (e ▸ p)⟩
  · have gx := List.getElem?_eq_getElem (l := xs) (Nat.lt_of_lt_of_le lt le)
    have gy := List.getElem?_eq_getElem (l := ys) lt
    refine .inr ⟨⟨xs, ys, _, _, at1 i σ H p, at2 i σ H p, gx, gy⟩, Pv (i + 1), fun _ _ p2 => ⟨ys.length - (i + 1), by omega, lt, rfl, p2⟩, ?_⟩
    rintro _ _ ⟨T, x, y, rfl, nT, rfl, f1, f2⟩
    exact hs i x y T σ H (f1 xs (at1 i σ H p)) (f2 ys (at2 i σ H p)) p nT
/-! what a comprehension with a test keeps, by items -/
def SiftG {α β : Type} (f : α → Option β) (R : Hp → V → β → Prop) (xs : List α) : PeT := fun i o H => ∃ x, xs[i]? = some x ∧ ((∃ b y, f x = some b ∧ o = some y ∧ R H y b) ∨ (f x = none ∧ o = none))
theorem siftG_mono {α β : Type} {f : α → Option β} {R : Hp → V → β → Prop} {xs : List α} (h : ∀ H H' y b, ExT H H' → R H y b → R H' y b) : Mono (SiftG f R xs) := fun i o H H' e ⟨x, hx, r⟩ =>
  ⟨x, hx, r.imp (fun ⟨b, y, h1, h2, h3⟩ => ⟨b, y, h1, h2, h H H' y b e h3⟩) id⟩
theorem siftG_all {α β : Type} {f : α → Option β} {R : Hp → V → β → Prop} {H : Hp} : ∀ {os : List (Option V)} {xs : List α}, os.length = xs.length → (∀ (i : Nat) o, os[i]? = some o → SiftG f R xs i o H) → Paired (R H) (os.filterMap id) (xs.filterMap f)
  | [], [], _, _ => .nil
  | [], _ :: _, h, _ => nomatch h
  | _ :: _, [], h, _ => nomatch h
  | o :: os, x :: xs, l, h => by
    have tl := siftG_all (os := os) (xs := xs) (Nat.succ.inj l) fun i o e => h (i + 1) o e
    obtain ⟨x', e, r⟩ := h 0 o rfl
    obtain rfl : x = x' := Option.some.inj e
    rcases r with ⟨b, y, h1, h2, h3⟩ | ⟨h1, h2⟩
    · subst h2
      rw [List.filterMap_cons_some h1]
      exact .cons h3 tl
    · subst h2
      rw [List.filterMap_cons_none h1]
      exact tl
theorem paired_refs {β : Type} {R : Addr → β → Prop} {ys : List V} {bs : List β} (h : Paired (fun v b => ∃ q, v = V.ref q ∧ R q b) ys bs) : ∃ qs : List Addr, ys = qs.map V.ref ∧ Paired R qs bs := by
  induction h with
  | nil => exact ⟨[], rfl, .nil⟩
  | cons h _ ih =>
    obtain ⟨q, rfl, r⟩ := h
    obtain ⟨qs, rfl, t⟩ := ih
    exact ⟨q :: qs, rfl, .cons r t⟩
theorem paired_ints {ys : List V} {bs : List Int} (h : Paired (fun v b => v = V.int b) ys bs) : ys = bs.map V.int := by
  induction h with
  | nil => rfl
  | cons h _ ih => rw [h, ih]; rfl
theorem paired_at {α β : Type} {R : α → β → Prop} {xs : List α} {ys : List β} (h : Paired R xs ys) : ∀ {i : Nat} {x : α}, xs[i]? = some x → ∃ y, ys[i]? = some y ∧ R x y := by
  induction h with
  | nil => intro i x e; simp at e
  | cons h _ ih =>
    intro i x e
    cases i with
    | zero => exact ⟨_, rfl, by cases e; exact h⟩
    | succ i => exact ih (i := i) e
theorem paired_at2 {α β : Type} {R : α → β → Prop} {xs : List α} {ys : List β} (h : Paired R xs ys) : ∀ {i : Nat} {y : β}, ys[i]? = some y → ∃ x, xs[i]? = some x ∧ R x y := by
  induction h with
  | nil => intro i x e; simp at e
  | cons h _ ih =>
    intro i x e
    cases i with
    | zero => exact ⟨_, rfl, by cases e; exact h⟩
    | succ i => exact ih (i := i) e
theorem cut_tail (xs : List V) : cutV xs (some 1) none = xs.tail := by
  cases xs with
  | nil => rfl
  | cons x xs =>
    unfold cutV
    have e : HT.sIx (x :: xs).length 0 (some 1) = 1 := HT.sIx_nat _ _ 1 |>.trans (Nat.min_eq_left (Nat.succ_le_succ (Nat.zero_le _)))
    rw [e, HT.sIx_none]
    exact List.take_of_length_le (by simp)
end Lw
/-! Own classes whose __init__ has *v and one keyword-only parameter (None if it lacks); properties; len, in, truth, and two-place operators of instances. -/
namespace Lw
open PySem PySem.Spec PyProof.Rows L2 Evl
theorem vals_map {α : Type} {f : α → V} {fs : List α} {ys : List V} (hl : ys.length = fs.length) (h : ∀ (i : Nat) y, ys[i]? = some y → ∃ p, fs[i]? = some p ∧ y = f p) : ys = fs.map f := by
  refine List.ext_getElem? fun i => ?_
  rw [List.getElem?_map]
  by_cases c : i < ys.length
  · obtain ⟨p, e1, e2⟩ := h i ys[i] (List.getElem?_eq_getElem c)
    rw [List.getElem?_eq_getElem c, e1, e2]
    rfl
  · rw [List.getElem?_eq_none (by omega), List.getElem?_eq_none (by omega)]
    rfl
structure InitR (K : PySem.W.Frag) (C : Addr) (q : Str) (st : Stmt) (p1 : Str) : Prop where
  ex : ∃ (f D : Addr) (oc : Value) (od : Option Addr) (doc pm : Value) (an : Option Addr) (cdv ct : Value) (osl : Array (Option Value)), Mk K C f ∧
    K.lookup f = some ⟨oc, od, .func (PySem.W.fnOf "__init__" q (defArgs st) (defBody st) (defScope st) .none (.ref D) doc pm an cdv ct), osl⟩ ∧ PySem.W.codeIn K cdv q = true ∧ PySem.W.nsIn K D p1 = some (some .none)
theorem initR_mk {K : PySem.W.Frag} {C f D : Addr} {q p1 : Str} {st : Stmt} {oc doc pm cdv ct : Value} {od an : Option Addr} {osl : Array (Option Value)} (mi : PySem.W.makesIn K C = true) (at_ : PySem.W.findIn K (.ref C) "__init__" = some (some (.ref f))) (fn : PySem.W.isFn K (.ref f) = true) (kC : PySem.W.keepIn K (.ref C) = true)
    (l : K.lookup f = some ⟨oc, od, .func (PySem.W.fnOf "__init__" q (defArgs st) (defBody st) (defScope st) .none (.ref D) doc pm an cdv ct), osl⟩) (c : PySem.W.codeIn K cdv q = true) (k1 : PySem.W.nsIn K D p1 = some (some .none)) : InitR K C q st p1 :=
  ⟨f, D, oc, od, doc, pm, an, cdv, ct, osl, ⟨mi, at_, fn, kC⟩, l, c, k1⟩
/-- what __init__(self, *v, p1=None) binds -/
structure BndR (q : Str) (st : Stmt) (p0 p1 pv : Str) : Prop where
  pos : ∀ (D : Addr) (doc pm : Value) (an : Option Addr) (cdv ct a : Value) (rest : List Value), ∃ (β γ : Type) (k1 : Option Value → Sem β) (k2 : β → Sem γ) (k3 : γ → Sem (List (Str × Value))) (x : β),
    bindArgs (PySem.W.fnOf "__init__" q (defArgs st) (defBody st) (defScope st) .none (.ref D) doc pm an cdv ct) ⟨a :: rest, []⟩ = ((nsGet D p1 >>= k1) >>= k2) >>= k3 ∧ k1 (some .none) = pure x ∧ (k2 x >>= k3) = (newTuple rest >>= fun t => pure [(p0, a), (p1, Value.none), (pv, t)])
  kw : ∀ (D : Addr) (doc pm : Value) (an : Option Addr) (cdv ct a b : Value),
    bindArgs (PySem.W.fnOf "__init__" q (defArgs st) (defBody st) (defScope st) .none (.ref D) doc pm an cdv ct) ⟨[a], [(p1, b)]⟩ = (newTuple [] >>= fun t => pure [(p0, a), (p1, b), (pv, t)])
/-- the promise of C(..): by position, and by the name p1 alone -/
structure DefR (P : Program) (w : World) (K : PySem.W.Frag) (mg : Str → Option Value) (base : Heap) (CX : CXT) (k : Nat) (C : Addr) (p1 : Str) (sp : Sp) : Prop where
  ex : ∃ f, Mk K C f ∧ FnR P w K mg base CX k f (fun vs H Q E => ∃ a rest, vs = a :: rest ∧ rest.length ≤ sizeLine ∧ ∀ p, H p = none → sp [a, .non, .ref p] (upd H p (.tup rest)) Q E) ∧
    ∀ (A : Around) (outer : List Env) (s : Shared) (H : Hp) (ua ub : Value) (a b : V) (Q : VK) (E : XK), Room k A → Env0 P w K mg base A outer s H → RelV a ua → RelV b ub → (∀ p, H p = none → sp [a, b, .ref p] (upd H p (.tup [])) Q E) →
      codeAny (model P w) A (.call (.ref f) ⟨[ua], [(p1, ub)]⟩) (CR CX outer P w H s Q E) s
section
variable {P : Program} {w : World} {K : PySem.W.Frag} {mg : Str → Option Value} {base : Heap} {k : Nat} {C : Addr} {q p0 p1 pv : Str} {st : Stmt} {N : List Str} {sp : Sp} {CX : CXT}
theorem defRX_of (D : InitR K C q st p1) (S : FnScope N [p0, p1, pv] (defScope st)) (hCX : StX.CXUp CX) (hb : BndR q st p0 p1 pv)
    (hbody : ∀ (f : Addr) (cdv : Value) (A : Around) (outer : List Env) (s : Shared) (H : Hp) (vs : List V) (Q : VK) (E : XK), Room k (A.deeper (envOfC q (defScope st) s.heap.objs.size f cdv)) → sp vs H Q E →
      ∃ t, PSs (cxOf CX P w K mg base N q (defScope st) f cdv A outer s H E) (defBody st) t ∧ t { nx := fun _ H' => Q .non H', rt := Q } (start N vs) H) : DefR P w K mg base CX (k + 1) C p1 sp := by
  obtain ⟨f, D, oc, od, doc, pm, an, cdv, ct, osl, M, lk, hcd, hns⟩ := D.ex
  have core : ∀ (A : Around) (outer : List Env) (s : Shared) (H : Hp) (us rest : List Value) (a b : V) (rs : List V) (ua ub : Value) (Q : VK) (E : XK) (args : Args), Room (k + 1) A → Env0 P w K mg base A outer s H → RelV a ua → RelV b ub → Vals rs rest → rs.length ≤ sizeLine →
      (∀ (M : Model) (A' : Around) (Ex : Value → Shared → Prop) (Qb : List (Str × Value) → Shared → Prop), K.In s.heap → wpAny M A' (newTuple rest >>= fun t => pure [(p0, ua), (p1, ub), (pv, t)]) Qb Ex s →
        wpAny M A' (bindArgs (PySem.W.fnOf "__init__" q (defArgs st) (defBody st) (defScope st) .none (.ref D) doc pm an cdv ct) args) Qb Ex s) →
      (∀ p, H p = none → sp [a, b, .ref p] (upd H p (.tup rs)) Q E) → codeAny (model P w) A (.call (.ref f) args) (CR CX outer P w H s Q E) s := by
    intro A outer s H us rest a b rs ua ub Q E args hr e0 ra rb rr hz hbind hq
    have hn : H s.heap.objs.size = Option.none := e0.hok.fresh (Nat.le_refl _)
    have KX : K.In s.heap := e0.mod.kin.keeps fun b o e => (e0.bs b o e).1
    refine StX.run_bnd lk hcd S hr e0 (G := fun xs H2 => ∃ p, H p = Option.none ∧ xs = [a, b, V.ref p] ∧ H2 = upd H p (.tup rs)) (fun A' Ex Q' h => ?_) fun s2 H2 xs ⟨p, hp, ex, eH⟩ hr' => ?_
    · refine hbind _ _ _ _ KX ?_
      refine wpAny_bind (wpAny_newTuple (wpAny_pure ?_) (by rw [← rr.length]; exact hz))
      have new : ObjOk P w (upd H s.heap.objs.size (.tup rs)) (s.heap.push ({ cls := .type "tuple", data := .seq rest.toArray } : Obj)) s.heap.objs.size (.tup rs) := ⟨hz, rest, rr, ⟨_, Heap.get?_push_size _ rfl, rfl, _, rfl⟩⟩
      have un := StX.un_laid (fs := frs outer) (s := s) (o := ({ cls := .type "tuple", data := .seq rest.toArray } : Obj)) (u := .tup rs) hn
      exact h _ _ [a, b, V.ref s.heap.objs.size] [ua, ub, Value.ref s.heap.objs.size] (StX.env0_laid e0 new) un rfl (fun e s' => hCX outer s H _ _ E e s' un (fun b o q => Heap.get?_push_of_some _ q) rfl) (.cons ra (.cons rb (.cons rfl .nil))) rfl ⟨_, hn, rfl, rfl⟩
    · subst ex eH
      exact hbody f cdv A outer s2 _ _ Q E hr' (hq p hp)
  refine ⟨f, M, fun A outer s H us vs Q E hr e0 r hs => ?_, fun A outer s H ua ub a b Q E hr e0 ra rb hs => ?_⟩
  · obtain ⟨a, rs, rfl, hz, hq⟩ := hs
    cases r with
    | cons ra rr =>
      rename_i ua rest
      refine core A outer s H [] rest a .non rs ua .none Q E _ hr e0 ra rfl rr hz (fun M A' Ex Qb KX h => ?_) hq
      obtain ⟨β, γ, k1, k2, k3, x, e1, e2, e3⟩ := hb.pos D doc pm an cdv ct ua rest
      rw [e1, bind_assoc]
      have l1 : PySem.W.Looks M s.heap (nsGet D p1 >>= k1) x := (PySem.W.looks_nsIn KX hns).andThen (PySem.W.Looks.of_pure e2)
      refine wpAny_bind (l1.here ?_)
      rw [e3]
      exact h
  · refine core A outer s H [] [] a b [] ua ub Q E _ hr e0 ra rb .nil (Nat.zero_le _) (fun M A' Ex Qb KX h => ?_) hs
    rw [hb.kw D doc pm an cdv ct ua ub]
    exact h
end
theorem defR_of {P : Program} {w : World} {K : PySem.W.Frag} {mg : Str → Option Value} {base : Heap} {k : Nat} {C : Addr} {q p0 p1 pv : Str} {st : Stmt} {N : List Str} {sp : Sp} (D : InitR K C q st p1) (S : FnScope N [p0, p1, pv] (defScope st)) (hb : BndR q st p0 p1 pv)
    (hbody : ∀ (f : Addr) (cdv : Value) (A : Around) (outer : List Env) (s : Shared) (H : Hp) (vs : List V) (Q : VK) (E : XK), Room k (A.deeper (envOfC q (defScope st) s.heap.objs.size f cdv)) → sp vs H Q E →
      ∃ t, PSs (cxOf CX0 P w K mg base N q (defScope st) f cdv A outer s H E).nox (defBody st) t ∧ t { nx := fun _ H' => Q .non H', rt := Q } (start N vs) H) : DefR P w K mg base CX0 (k + 1) C p1 sp :=
  defRX_of D S StX.cxUp_none hb fun f cdv A outer s H vs Q E hr h => let ⟨t, a, b⟩ := hbody f cdv A outer s H vs Q E hr h; ⟨t, a.nox, b⟩
section
variable {X : Cx} {CX : CXT} {k j : Nat} {C : Addr} {x p1 : Str} {sp : Sp} {E : XK} {p pos : Pos} {e : Expr} {es : List Expr} {kwe : List Keyword} {ts tk : TA}
/-- C(a, ..) -/
theorem pe_mkR (d : DefR X.prog X.w X.K X.mg X.base CX k C p1 sp) (hm : X.mg x = some (.ref C)) (hr : Room j X.A) (hj : k + 1 ≤ j) (hg : Gl X x) (hx : Passes CX X E) (ha : PA X (e :: es) ts) (hdb : (x == ("__debug__" : Str)) = false := by decide)
    (he : starEach (e :: es) X.env = (false, eval e X.env) :: starEach es X.env := by rfl) (hpl : (backTo pos (starEach es X.env)).any (·.1) = false := by rfl) :
    PE X (.Call (.Name x p) (e :: es) [] pos) (fun σ H Q => ts σ H fun vs H1 => vs.length ≤ sizeLine ∧ ∀ x dx pp, H1 x = none → H1 dx = none → dx ≠ x → upd (upd H1 dx (.own x)) x (.ins C dx []) pp = none →
      sp [.ref x, .non, .ref pp] (upd (upd (upd H1 dx (.own x)) x (.ins C dx [])) pp (.tup vs)) (fun v H2 => v = .non ∧ Q (.ref x) H2) E) := by
  obtain ⟨f, M, F, _⟩ := d.ex
  refine ⟨fun pins s σ H Q I h => ?_⟩
  refine wpAny_Call_Name_kw (ld_glob I hg hm ?_ hdb)
  refine PySem.W.callWith_K (h₀ := X.base) I.ok.mod.kin M.kp (thn (ha.run pos pins s σ H _ I h) fun us s1 ⟨vs, H1, I1, r, hz, q⟩ => ⟨I1.kIn, ?_⟩) he hpl
  exact StX.run_makeR M F (hr.mono hj) hx I1 r (fun x dx h1 h2 h3 => ⟨_, _, rfl, hz, fun p hp => q x dx p h1 h2 h3 hp⟩)
/-- C() -/
theorem pe_mkR0 (d : DefR X.prog X.w X.K X.mg X.base CX k C p1 sp) (hm : X.mg x = some (.ref C)) (hr : Room j X.A) (hj : k + 1 ≤ j) (hg : Gl X x) (hx : Passes CX X E) (hdb : (x == ("__debug__" : Str)) = false := by decide) :
    PE X (.Call (.Name x p) [] [] pos) (fun σ H1 Q => ∀ x dx pp, H1 x = none → H1 dx = none → dx ≠ x → upd (upd H1 dx (.own x)) x (.ins C dx []) pp = none →
      sp [.ref x, .non, .ref pp] (upd (upd (upd H1 dx (.own x)) x (.ins C dx [])) pp (.tup [])) (fun v H2 => v = .non ∧ Q (.ref x) H2) E) := by
  obtain ⟨f, M, F, _⟩ := d.ex
  refine ⟨fun pins s σ H Q I h => ?_⟩
  refine wpAny_Call_Name_kw (ld_glob I hg hm ?_ hdb)
  exact PySem.W.callWith_K0 I.kIn M.kp (StX.run_makeR (us := []) (vs := []) M F (hr.mono hj) hx I .nil (fun x dx h1 h2 h3 => ⟨_, _, rfl, Nat.zero_le _, fun p hp => h x dx p h1 h2 h3 hp⟩))
/-- C(p1 = e) -/
theorem pe_mkRK (d : DefR X.prog X.w X.K X.mg X.base CX k C p1 sp) (hm : X.mg x = some (.ref C)) (hr : Room j X.A) (hj : k + 1 ≤ j) (hg : Gl X x) (hx : Passes CX X E) (hkw : PK X kwe tk)
    (hall : (backToKw pos (keywordEach kwe X.env)).all (·.1.isSome) = true := by rfl) (hks : (backToKw pos (keywordEach kwe X.env)).filterMap (·.1) = [p1] := by rfl) (hdb : (x == ("__debug__" : Str)) = false := by decide)
    (hpl : ((backTo pos (starEach [] X.env)).any (·.1) || (backToKw pos (keywordEach kwe X.env)).any (·.1.isNone)) = false := by rfl) :
    PE X (.Call (.Name x p) [] kwe pos) (fun σ H Q => tk σ H fun vs H1 => ∃ b, vs = [b] ∧ ∀ x dx pp, H1 x = none → H1 dx = none → dx ≠ x → upd (upd H1 dx (.own x)) x (.ins C dx []) pp = none →
      sp [.ref x, b, .ref pp] (upd (upd (upd H1 dx (.own x)) x (.ins C dx [])) pp (.tup [])) (fun v H2 => v = .non ∧ Q (.ref x) H2) E) := by
  obtain ⟨f, M, _, F⟩ := d.ex
  refine ⟨fun pins s σ H Q I h => ?_⟩
  refine wpAny_Call_Name_kw (ld_glob I hg hm ?_ hdb)
  refine PySem.W.callWith_KW0 (h₀ := X.base) I.ok.mod.kin M.kp hall ?_ hpl
  refine thn (hkw.run pos pins s σ H _ I h) fun ws s1 ⟨zs, H1, I1, rz, b, ez, q2⟩ => ⟨I1.kIn, ?_⟩
  subst ez
  obtain ⟨ub, rfl, rb⟩ := vals1 rz
  rw [hks]
  have hq := q2 (s1.heap.objs.size + 1) s1.heap.objs.size
  have I2 := Inv.made (C := C) I1
  refine wpAny_call (make_map (f := f) I1.kIn M.makes M.init (beq_iff_eq.mp M.fn) (codeAny_mono (F _ X.stack _ _ (Value.ref (s1.heap.objs.size + 1)) ub (V.ref (s1.heap.objs.size + 1)) b _ E ((hr.mono hj).make C [] [(p1, ub)]) (I2.env0.make C [] [(p1, ub)]) rfl rb
    (fun pp hp => hq pp (I1.hok.fresh (Nat.le_succ _)) (I1.hok.fresh (Nat.le_refl _)) (Nat.ne_of_lt (Nat.lt_succ_self _)) hp)) fun r s' hq' => ?_))
  cases r with
  | error e => exact hx pins σ _ _ e s' I2 hq'
  | ok fl =>
    cases fl with
    | ret u =>
      obtain ⟨v, H', I3, rv, ev, q3⟩ := I2.after hq'
      subst ev
      exact ⟨rv, ⟨V.ref (s1.heap.objs.size + 1), H', I3, rfl, q3⟩⟩
    | next => exact False.elim hq'
    | brk => exact False.elim hq'
    | cont => exact False.elim hq'
end
/-! ### properties -/
structure PropC (K : PySem.W.Frag) (C : Addr) (x q : Str) (st : Stmt) : Prop where
  ex : ∃ (p f : Addr) (fd : FuncData), PropOf K C x p f ∧ Fun K x q st f fd
theorem propC_mk {K : PySem.W.Frag} {C p f : Addr} {x q : Str} {st : Stmt} {rest : List Value} {oc doc pm cdv ct kV : Value} {od an : Option Addr} {osl : Array (Option Value)} (at_ : PySem.W.findIn K (.ref C) x = some (some (.ref p)))
    (g : PySem.W.specialIn K (.ref p) "__get__" = some (some (.builtin "property.__get__"))) (t : PySem.W.takesIn K (.ref p) = some true) (r : PySem.W.recIn K p "property" = some (.ref f :: rest))
    (l : K.lookup f = some ⟨oc, od, .func (PySem.W.fnOf x q (defArgs st) (defBody st) (defScope st) .none kV doc pm an cdv ct), osl⟩) (c : PySem.W.codeIn K cdv q = true) (kp : PySem.W.keepIn K (.ref f) = true) : PropC K C x q st :=
  ⟨p, f, _, ⟨at_, g, t, ⟨rest, r⟩⟩, fun_mk l c kp⟩
structure DefP (P : Program) (w : World) (K : PySem.W.Frag) (mg : Str → Option Value) (base : Heap) (CX : CXT) (k : Nat) (C : Addr) (x q : Str) (st : Stmt) (ps : List Str) (sp : Sp) : Prop where
  ex : ∃ (p f : Addr) (fd : FuncData), PropOf K C x p f ∧ Fun K x q st f fd ∧ FnOk P w K mg base CX k f fd ps sp
theorem defP_of {P : Program} {w : World} {K : PySem.W.Frag} {mg : Str → Option Value} {base : Heap} {k : Nat} {C : Addr} {x q : Str} {st : Stmt} {ps N : List Str} {sp : Sp} (D : PropC K C x q st) (S : FnScope N ps (defScope st)) (len : ∀ vs H Q E, sp vs H Q E → vs.length = ps.length)
    (hbody : ∀ (f : Addr) (cdv : Value) (A : Around) (outer : List Env) (s : Shared) (H : Hp) (vs : List V) (Q : VK) (E : XK), Room k (A.deeper (envOfC q (defScope st) s.heap.objs.size f cdv)) → sp vs H Q E →
      ∃ t, PSs (cxOf CX0 P w K mg base N q (defScope st) f cdv A outer s H E).nox (defBody st) t ∧ t { nx := fun _ H' => Q .non H', rt := Q } (start N vs) H) : DefP P w K mg base CX0 (k + 1) C x q st ps sp := by
  obtain ⟨p, f, fd, M, F⟩ := D.ex
  exact ⟨p, f, fd, M, F, F.ok S len (hbody f)⟩
section
variable {X : Cx} {CX : CXT} {k j : Nat} {C : Addr} {m x q fld : Str} {st : Stmt} {ps : List Str} {sp : Sp} {E : XK} {pos : Pos} {e : Expr} {ta : TE} {pins : List (Addr × Obj)} {σ : L2.St} {H : Hp} {s : Shared}
/-- e.x, a property -/
theorem pe_prp (he : PE X e ta) (c : Cls X.K C) (d : DefP X.prog X.w X.K X.mg X.base CX k C x q st ps sp) (b : BndM x q st ps) (hr : Room j X.A) (hj : k + 1 ≤ j) (hx : Passes CX X.nox E) (hab : attributeBase e x X.env (eval e X.env) = eval e X.env := by rfl) :
    PE X (.Attribute e x pos) (tProp C sp [] E ta) := by
  obtain ⟨p, f, fd, M, F, ok⟩ := d.ex
  exact L2.pe_prop he c M ok (hr.mono hj) (F.binds b) .nil hx hab
/-- a method's run, anywhere deeper -/
theorem meth_at {A : Around} {f : Addr} {fd : FuncData} {us : List Value} {vs : List V} {Q : VK} (F : Fun X.K m q st f fd) (ok : FnOk X.prog X.w X.K X.mg X.base CX k f fd ps sp) (b : BndM m q st ps) (hr : Room k A) (e0 : Env0 X.prog X.w X.K X.mg X.base A X.stack s H) (hx : Passes CX X E) (I : Inv X pins σ H s) (r : Vals vs us) (hs : sp vs H Q E) :
    wpAny (model X.prog X.w) A (call (.ref f) us) (EP X pins σ Q) X.xe s := by
  have hsz : us.length = ps.length := by rw [← r.length]; exact ok.len _ _ _ _ hs
  have hb := (F.binds b) s us I.kIn (by rw [List.append_nil]; exact hsz)
  rw [List.append_nil] at hb
  refine wpAny_call (codeAny_mono (ok.run A X.stack s H ⟨us, []⟩ us vs Q E hr e0 hb r hs) fun r s' hq => ?_)
  cases r with
  | error e => exact hx pins σ H s e s' I hq
  | ok fl =>
    cases fl with
    | ret w' => exact I.after hq
    | next => exact False.elim hq
    | brk => exact False.elim hq
    | cont => exact False.elim hq
/-- len(an instance) -/
theorem call_lenI (d : DefM X.prog X.w X.K X.mg X.base CX k C "__len__" q st ps sp) (b : BndM "__len__" q st ps) (hr : Room j X.A) (hj : k + 1 ≤ j) (hx : Passes CX X E) :
    CallR X (.builtin "len") (fun xs H Q => ∃ a dx fs, xs = [.ref a] ∧ H a = some (.ins C dx fs) ∧ sp [.ref a] H (fun v H' => ∃ n : Int, v = .int n ∧ 0 ≤ n ∧ n < 2 ^ 63 ∧ Q (.int n) H') E) := by
  intro pins s σ H xs us Q I rv hq
  obtain ⟨a, dx, fs, rfl, ha, hs⟩ := hq
  obtain ⟨u, rfl, ru⟩ := vals1 rv
  cases ru
  obtain ⟨f, fd, M, fi, F, ok⟩ := d.ex
  obtain ⟨mA, J, _⟩ := ins_get I.hok ha
  obtain ⟨od, J, _⟩ := J.look
  obtain ⟨mm, hF⟩ := I.fr
  refine PySem.W.len_K hF I.ok.mod.kin J M.at_ M.fn (thn (meth_at F ok b (hr.mono hj).in1 I.env0.in1 hx I (us := [.ref a]) (vs := [.ref a]) (.cons rfl .nil) hs) fun v s' ⟨z, H', I', rz, n, e, h0, h1, qq⟩ => ?_)
  subst e
  obtain ⟨t, rfl⟩ := (show ∃ t, v = Value.int n t from rz)
  exact ⟨⟨h0, h1⟩, .int n, H', I'.tok _, ⟨_, rfl⟩, qq⟩
/-- the truth of an instance by its own __len__ -/
theorem truthy_len {A : Around} {a dx : Addr} {fs : List (Str × V)} {Q : Bool → Hp → Prop} (d : DefM X.prog X.w X.K X.mg X.base CX k C "__len__" q st ps sp) (b : BndM "__len__" q st ps) (nb : PySem.W.findIn X.K (.ref C) "__bool__" = some none) (hr : Room (k + 1) A) (e0 : Env0 X.prog X.w X.K X.mg X.base A X.stack s H)
    (hx : Passes CX X E) (I : Inv X pins σ H s) (ha : H a = some (.ins C dx fs)) (hs : sp [.ref a] H (fun v H' => ∃ n : Int, v = .int n ∧ 0 ≤ n ∧ n < 2 ^ 63 ∧ Q (!decide (n = 0)) H') E) :
    wpAny (model X.prog X.w) A (truthy (.ref a)) (TP X pins σ Q) X.xe s := by
  obtain ⟨f, fd, M, fi, F, ok⟩ := d.ex
  obtain ⟨mA, J, _⟩ := ins_get I.hok ha
  obtain ⟨od, J, _⟩ := J.look
  have X0 := I.kIn
  unfold truthy
  refine wpAny_bind (m := callSpecial? (.ref a) (Str.ofString "__bool__")) (wpAny_bind (wpAny_bind (J.type.here ((PySem.W.looks_findIn X0 nb).here (wpAny_pure ?_)))))
  refine wpAny_bind (wpAny_bind (J.type.here ((PySem.W.looks_findIn X0 M.at_).here ?_)))
  dsimp only [Option.isNone]
  simp only [Bool.false_eq_true, if_false]
  refine wpAny_bind (wpAny_runValue (codeAny_builtin entry_len ?_))
  unfold Builtin.«len»
  refine wpAny_bind (m := oneArg "len" _) (wpAny_pure ?_)
  refine wpAny_bind (m := callSpecial? (.ref a) (Str.ofString "__len__")) (PySem.W.special_fn X0 J M.at_ (beq_iff_eq.mp M.fn) (thn (meth_at F ok b hr.in1 e0.in1 hx I (us := [.ref a]) (vs := [.ref a]) (.cons rfl .nil) hs) fun v s' ⟨z, H', I', rz, n, e, h0, h1, qq⟩ => ?_))
  subst e
  obtain ⟨t, rfl⟩ := (show ∃ t, v = Value.int n t from rz)
  refine wpAny_bind (wpAny_holding (wpAny_pure ?_))
  refine wpAny_bind (wpAny_letGo ?_)
  show wpAny _ _ (if n < 0 then _ else _) _ _ _
  rw [if_neg (by omega)]
  show wpAny _ _ (if n ≥ 2 ^ 63 then _ else _) _ _ _
  rw [if_neg (by omega)]
  refine wpAny_bind (wpAny_mkInt (wpAny_pure ?_))
  refine wpAny_pure ⟨H', I'.tok _, ?_⟩
  have e : (n != 0) = !decide (n = 0) := by
    rw [Bool.eq_iff_iff]
    simp
  rw [e]
  exact qq
theorem tru_lenI (d : DefM X.prog X.w X.K X.mg X.base CX k C "__len__" q st ps sp) (b : BndM "__len__" q st ps) (nb : PySem.W.findIn X.K (.ref C) "__bool__" = some none) (hr : Room j X.A) (hj : k + 1 ≤ j) (hx : Passes CX X E) :
    TruR X (fun x H Q => ∃ a dx fs, x = .ref a ∧ H a = some (.ins C dx fs) ∧ sp [.ref a] H (fun v H' => ∃ n : Int, v = .int n ∧ 0 ≤ n ∧ n < 2 ^ 63 ∧ Q (!decide (n = 0)) H') E) := by
  intro pins s σ H x v Q I rx h
  obtain ⟨a, dx, fs, rfl, ha, hs⟩ := h
  cases rx
  exact truthy_len d b nb (hr.mono hj) I.env0 hx I ha hs
theorem bool_meets {P : Program} {w : World} {x : Value} : MeetsIn P w (Builtin.«bool.__new__» ⟨[.type "bool", x], []⟩) (fun A R s => wpAny (model P w) A.in1 (truthy x) (fun b s' => R (.ok (.ret (.bool b))) s') (fun e s' => R (.error e) s') s) := by
  intro A R s hs
  have f1 := F.conv_sub_bool
  obtain ⟨hp, g, d, tk, os⟩ := s
  unfold Builtin.«bool.__new__»
  repeat (any_goals (first | assumption | (with_reducible refine wpAny_bind (wpAny_mono hs (fun b s' h => ?_) fun _ _ h => h)) | wp_step))
theorem call_bool_tru {P : Program} {w : World} {A : Around} {E : Value → Shared → Prop} {s : Shared} {x : Value} {Q : Value → Shared → Prop} (h : wpAny (model P w) A.in1.in1 (truthy x) (fun b s' => Q (.bool b) s') E s) : wpAny (model P w) A (call (.type "bool") [x]) Q E s :=
  callType_newIn F.called_bool F.newNe_bool (F.typeCall_bool_1 x) (F.newCall_bool_1 x) (fun obj => F.args_object_init_2 obj x) F.entry_bool_new bool_meets (wpAny_mono h (fun b s' q => ⟨rfl, q⟩) fun _ _ q => q)
/-- bool(an instance with its own __len__) -/
theorem call_boolI (d : DefM X.prog X.w X.K X.mg X.base CX k C "__len__" q st ps sp) (b : BndM "__len__" q st ps) (nb : PySem.W.findIn X.K (.ref C) "__bool__" = some none) (hr : Room j X.A) (hj : k + 3 ≤ j) (hx : Passes CX X E) :
    CallR X (.type "bool") (fun xs H Q => ∃ a dx fs, xs = [.ref a] ∧ H a = some (.ins C dx fs) ∧ sp [.ref a] H (fun v H' => ∃ n : Int, v = .int n ∧ 0 ≤ n ∧ n < 2 ^ 63 ∧ Q (.bl (!decide (n = 0))) H') E) := by
  intro pins s σ H xs us Q I rv hq
  obtain ⟨a, dx, fs, rfl, ha, hs⟩ := hq
  obtain ⟨u, rfl, ru⟩ := vals1 rv
  cases ru
  refine call_bool_tru (thn (truthy_len (Q := fun b H' => Q (.bl b) H') d b nb (hr.mono hj).in1.in1 I.env0.in1.in1 hx I ha hs) fun b s' ⟨H', I', q⟩ => ?_)
  exact ⟨.bl b, H', I', rfl, q⟩
/-- y in an instance -/
theorem op_inI (d : DefM X.prog X.w X.K X.mg X.base CX k C "__contains__" q st ps sp) (b : BndM "__contains__" q st ps) (hr : Room j X.A) (hj : k ≤ j) (hx : Passes CX X E) :
    OpR X (compareOp .In) (fun y x H Q => ∃ a dx fs, x = .ref a ∧ H a = some (.ins C dx fs) ∧ sp [x, y] H (fun v H' => ∃ b, v = .bl b ∧ Q (.bl b) H') E) := by
  intro pins s σ H y x u v Q I ry rx hq
  obtain ⟨a, dx, fs, rfl, ha, hs⟩ := hq
  cases rx
  obtain ⟨f, fd, M, fi, F, ok⟩ := d.ex
  obtain ⟨mA, J, _⟩ := ins_get I.hok ha
  obtain ⟨od, J, _⟩ := J.look
  obtain ⟨mm, hF⟩ := I.fr
  refine PySem.W.in_K hF I.ok.mod.kin J M.at_ M.fn (thn (run_fn (us := [.ref a, u]) (vs := [.ref a, y]) ok (hr.mono hj) (F.binds b) .nil hx I (.cons rfl (.cons ry .nil)) hs) fun z s' hz => ?_)
  obtain ⟨w', H', I', rw', bb, rfl, qq⟩ := hz
  cases rw'
  exact wpAny_truthy_bool ⟨.bl bb, H', I', rfl, qq⟩
/-- y not in an instance -/
theorem op_notinI (d : DefM X.prog X.w X.K X.mg X.base CX k C "__contains__" q st ps sp) (b : BndM "__contains__" q st ps) (hr : Room j X.A) (hj : k ≤ j) (hx : Passes CX X E) :
    OpR X (compareOp .NotIn) (fun y x H Q => ∃ a dx fs, x = .ref a ∧ H a = some (.ins C dx fs) ∧ sp [x, y] H (fun v H' => ∃ b, v = .bl b ∧ Q (.bl (!b)) H') E) := by
  intro pins s σ H y x u v Q I ry rx hq
  obtain ⟨a, dx, fs, rfl, ha, hs⟩ := hq
  cases rx
  obtain ⟨f, fd, M, fi, F, ok⟩ := d.ex
  obtain ⟨mA, J, _⟩ := ins_get I.hok ha
  obtain ⟨od, J, _⟩ := J.look
  obtain ⟨mm, hF⟩ := I.fr
  refine PySem.W.notIn_K hF I.ok.mod.kin J M.at_ M.fn (thn (run_fn (us := [.ref a, u]) (vs := [.ref a, y]) ok (hr.mono hj) (F.binds b) .nil hx I (.cons rfl (.cons ry .nil)) hs) fun z s' hz => ?_)
  obtain ⟨w', H', I', rw', bb, rfl, qq⟩ := hz
  cases rw'
  exact wpAny_truthy_bool ⟨.bl (!bb), H', I', rfl, qq⟩
/-- a op b, two instances -/
theorem op_binI {op : Operator} (d : DefM X.prog X.w X.K X.mg X.base CX k C m q st ps sp) (b : BndM m q st ps) (o : OwnC X.K X.mg x C fld) (hr : Room j X.A) (hj : k ≤ j) (hx : Passes CX X E) (hop : PySem.dunder op.info.2 = m := by rfl) :
    OpR X (binaryOp op) (fun x y H Q => ∃ a dx fs b dy gs, x = .ref a ∧ H a = some (.ins C dx fs) ∧ y = .ref b ∧ H b = some (.ins C dy gs) ∧ sp [x, y] H (fun v H' => ∃ b, v = .ref b ∧ Q (.ref b) H') E) := by
  intro pins s σ H x y v u Q I rx ry hq
  obtain ⟨a, dx, fs, c, dy, gs, rfl, ha, rfl, hc, hs⟩ := hq
  cases rx
  cases ry
  obtain ⟨f, fd, M, fi, F, ok⟩ := d.ex
  obtain ⟨mA, J, _⟩ := ins_get I.hok ha
  obtain ⟨od, J, _⟩ := J.look
  obtain ⟨mB, J2, _⟩ := ins_get I.hok hc
  obtain ⟨od2, J2, _⟩ := J2.look
  obtain ⟨mm, hF⟩ := I.fr
  refine PySem.W.binop_K (op := op) hF I.ok.mod.kin J J2.type o.sf (hop ▸ M.at_) M.fn ?_
  refine wpAny_mono (run_fn (us := [.ref a, .ref c]) (vs := [.ref a, .ref c]) ok (hr.mono hj) (F.binds b) .nil hx I (.cons rfl (.cons rfl .nil)) hs) (fun z s' hz => ?_) fun _ _ e => e
  obtain ⟨w', H', I', rw', bb, rfl, qq⟩ := hz
  cases rw'
  exact ⟨.ref bb, H', I', rfl, qq⟩
end
end Lw
namespace Lw
open PySem PySem.Spec PyProof.Rows L2 Evl
theorem filterMap_ite {α : Type} {p : α → Prop} [DecidablePred p] : ∀ {xs : List α}, xs.filterMap (fun x => if p x then some x else none) = xs.filter fun x => decide (p x)
  | [] => rfl
  | x :: xs => by
    have ih := filterMap_ite (p := p) (xs := xs)
    rw [List.filterMap_cons, List.filter_cons, ih]
    by_cases h : p x
    · rw [if_pos h, if_pos (decide_eq_true h)]
    · rw [if_neg h, if_neg (by simpa using h)]
theorem filterMap_map {α β : Type} {f : α → β} : ∀ {xs : List α}, xs.filterMap (fun x => some (f x)) = xs.map f
  | [] => rfl
  | x :: xs => by rw [List.filterMap_cons, List.map_cons, filterMap_map]
theorem but_no {p D : Addr} {H H' : Hp} {o : HO} (b : But p H H') (hp : H' p = some o) (h : H' D = none) : H D = none := by
  cases e : H D with
  | none => rfl
  | some u =>
    have ne : D ≠ p := fun z => by rw [z, hp] at h; cases h
    rw [b D u ne e] at h
    cases h
theorem But.trans {p : Addr} {H H1 H2 : Hp} (a : But p H H1) (b : But p H1 H2) : But p H H2 := fun x o n h => b x o n (a x o n h)
theorem ex_no {H H' : Hp} {a : Addr} (e : Ex H H') (h : H' a = none) : H a = none := by
  cases q : H a with
  | none => rfl
  | some o => rw [e a o q] at h; cases h
/-- what changed is new to the one ahead -/
theorem But.other {p D : Addr} {H H1 H2 : Hp} (a : But p H H1) (n : H D = none) (b : But D H1 H2) : But p H H2 := fun x o h1 h => b x o (ne_of_none h n) (a x o h1 h)
end Lw
namespace Lw
open PySem PySem.Spec PyProof.Rows L2 Evl
/-- t + u of two tuples of any lengths -/
theorem catA {K : PySem.W.Frag} {a b : Addr} {xs ys : List V} {Q : VK} {H : Hp} (ha : SqT K H a xs) (hb : SqT K H b ys) (len : xs.length + ys.length ≤ sizeLine) (q : ∀ t H', Ex H H' → SqT K H' t (xs ++ ys) → Q (.ref t) H') : rCatA K (.ref a) (.ref b) H Q :=
  ⟨a, b, xs, ys, rfl, rfl, ha, hb, len, fun e => q b H (Ex.refl _) (by rw [e]; exact hb), fun _ e => q a H (Ex.refl _) (by rw [e, List.append_nil]; exact ha), fun _ _ p n => q p _ (Ex.new n) (SqT.of upd_same)⟩
/-- a walk over a tuple, its turns told by any word -/
theorem go_tup {K : PySem.W.Frag} {a : Addr} {xs : List V} {H0 : Hp} {Qd : Hp → Prop} {B : V → Hp → (Hp → Prop) → Prop} (Pv : Nat → Hp → Prop) (h0 : Pv 0 H0) (hl : ∀ i H, i ≤ xs.length → Pv i H → SqT K H a xs) (hs : ∀ i x H, xs[i]? = some x → Pv i H → B x H (Pv (i + 1))) (hd : ∀ H, Pv xs.length H → Qd H) :
    ∃ W : Nat → Nat → Hp → Prop, (∃ m, W 0 m H0) ∧ ∀ i m H, W i m H → ((Itt K a).stop i H ∧ Qd H) ∨ ((Itt K a).go i H ∧ ∃ Nx : Hp → Prop, (∀ H', Nx H' → ∃ m', m' < m ∧ W (i + 1) m' H') ∧ ∀ x H', (Itt K a).yld i H x H' → B x H' Nx) := by
  refine ⟨fun i m H => m = xs.length - i ∧ i ≤ xs.length ∧ Pv i H, ⟨xs.length, by simp, Nat.zero_le _, h0⟩, ?_⟩
  rintro i m H ⟨rfl, hi, p⟩
  have q := hl i H hi p
  by_cases hlt : i < xs.length
  · refine .inr ⟨⟨xs, xs[i], q, by simp [hlt]⟩, Pv (i + 1), fun H' p' => ⟨xs.length - (i + 1), by omega, rfl, hlt, p'⟩, fun x H' y => ?_⟩
    obtain ⟨e, y⟩ := y
    subst e
    exact hs i x _ (y xs q) p
  · have e : i = xs.length := by omega
    subst e
    exact .inl ⟨⟨xs, q, Nat.le_refl _⟩, hd H p⟩
end Lw
namespace Lw
open PySem PySem.Spec PyProof.Rows L2 Evl
section
variable {X : Cx}
/-- sorted(d) of a dict of ints as keys, any number of them -/
theorem cr_sortedDK (hcalm : X.calm = true) : CallR X (.builtin "sorted") (fun xs H Q => ∃ (a : Addr) (kvs : List (Key × V)) (ks : List Int), xs = [.ref a] ∧ Rd H a (.dK kvs) ∧ kvs.map (·.1) = ks.map Sum.inl ∧ ks.length ≤ 100000 ∧
    ∀ (ys : List Int) (p : Addr), ys.Perm ks → ys.Pairwise (· ≤ ·) → H p = none → Q (.ref p) (upd H p (.lst (ys.map V.int)))) := by
  intro pins s σ H xs us Q I r q
  obtain ⟨a, kvs, ks, ex, hd, hks, h64, q⟩ := q
  subst ex
  obtain ⟨u, eu, rx⟩ := vals1 r
  subst eu
  cases rx
  obtain ⟨z, lo, vs, rel, dd⟩ := dk_rd I.hok hd
  obtain ⟨ep, hat⟩ := dd.dictAt
  have hkeys : vs.map (·.1) = ks.map Sum.inl := rel.keys.symm.trans hks
  have hl : vs.length = ks.length := by
    have e := congrArg List.length hkeys
    rw [List.length_map, List.length_map] at e
    exact e
  have h16 : vs.length ≤ sizeLine := by rw [hl, sizeLine_eq]; omega
  refine Calls.call_function_entry PyProof.Rows.kind_sorted PyProof.Rows.plain_sorted PyProof.Rows.entry_sorted (PyProof.Rows.args_sorted1 _) ?_
  unfold Builtin.«sorted»
  refine wpAny_bind (m := checkCount "sorted" 1 1 _) (wpAny_pure ?_)
  refine wpAny_bind (PySem.W.kdu_collect (A := X.A.in1) (PySem.W.kdl_dict (knd := mixKind X.prog X.w) (kvs := vs) (ep := ep) lo) (I.ok.hd hcalm) hat h16 fun h' tk acc hk hacc => ?_)
  have hal : acc.toList.length = ks.length := by rw [Array.length_toList, hacc.1, hl]
  have hS : IntsAre acc.toList ks := ints_each hal fun j v e => by
    obtain ⟨k, x, e1, e2⟩ := hacc.2 j v (by rw [← Array.getElem?_toList]; exact e)
    have e3 : (vs.map (·.1))[j]? = some k := by rw [List.getElem?_map, e1]; rfl
    rw [hkeys, List.getElem?_map] at e3
    cases e4 : ks[j]? with
    | none => rw [e4] at e3; cases e3
    | some y =>
      rw [e4] at e3
      have e5 : Sum.inl y = k := Option.some.inj e3
      subst e5
      rcases keyIs_shape (show keyIs (Sum.inl y) v = true from e2) with ⟨i, t, ek, ev⟩ | ⟨z, t, ek, ev⟩
      · cases ek
        exact ⟨y, t, rfl, ev⟩
      · cases ek
  have I1 : Inv X pins σ H { s with heap := h', toks := tk } := I.kept hk
  have line : acc.toList.length ≤ sizeLine := by rw [hal, sizeLine_eq]; omega
  refine wpAny_bind (wpAny_newList ?_ line)
  have hoL : (h'.push (seqObj "list" acc.toList.toArray 0)).get? h'.objs.size = some (seqObj "list" acc.toList.toArray 0) := Heap.get?_push_size _ rfl
  show wpAny _ _ _ _ _ { s with heap := h'.push (seqObj "list" acc.toList.toArray 0), toks := tk }
  refine wpAny_bind (wpAny_holding (wpAny_call_entry slot_list_sort ⟨_, hoL, rfl⟩ entry_list_sort
    (list_sort_treeAny (s := { s with heap := h'.push (seqObj "list" acc.toList.toArray 0), toks := tk }) hoL hS line fun out ys g1 g2 g3 => ⟨_, rfl, ?_⟩) (args_list_sort _)))
  obtain ⟨e', he'⟩ := PyProof.Rows.sortedHeap_at (vs := acc.toList) (out := out) hoL
  have hlen : (ys.map V.int).length ≤ sizeLine := by
    rw [List.length_map, g2.length_eq, ← hal]
    exact line
  refine wpAny_pure ⟨_, rfl, .ref h'.objs.size, upd H h'.objs.size (.lst (ys.map V.int)), I1.laid (t' := tk) (fun b u e => ?_) (Nat.le_refl _)
    (show ObjOk X.prog X.w _ _ _ (.lst (ys.map V.int)) from ⟨hlen, out.toList, e', vals_of_ints g1, by rw [Array.toArray_toList]; exact he'⟩), rfl, q ys _ g2 g3 (I1.hok.fresh (Nat.le_refl _))⟩
  have hb : b < h'.objs.size := Heap.lt_size e
  rw [PyProof.Rows.sortedHeap_old (Nat.ne_of_lt hb) (by rw [Heap.size_push]; exact Nat.lt_succ_of_lt hb)]
  exact Heap.get?_push_of_some _ e
end
end Lw
/-! Runs side by side; few runs on a grid. -/
namespace Lw
open PySem PySem.Spec PyProof.Rows L2 Evl
section
variable {α : Type}
theorem at_idx {rs : List (Run α)} {ii : Nat} {y : Int} {v : α} (c : Canon rs) (dead : ∀ (k : Nat) r, k < ii → rs[k]? = some r → r.2.1 ≤ y) (fin : ∀ r, rs[ii]? = some r → y < r.2.1) : AtR rs y v ↔ ∃ r, rs[ii]? = some r ∧ r.1 ≤ y ∧ r.2.2 = v := by
  constructor
  · rintro ⟨r, m, h1, h2, h3⟩
    obtain ⟨k, hk⟩ := List.getElem?_of_mem m
    rcases Nat.lt_trichotomy k ii with l | e | l
    · have := dead k r l hk
      omega
    · subst e
      exact ⟨r, hk, h1, h3⟩
    · obtain ⟨lk, ek⟩ := List.getElem?_eq_some_iff.mp hk
      have li : ii < rs.length := by omega
      have f := fin _ (List.getElem?_eq_getElem li)
      have p := (List.pairwise_iff_getElem.mp c.2 ii k li lk l).1
      rw [ek] at p
      omega
  · rintro ⟨r, hr, h1, h3⟩
    exact ⟨r, List.mem_of_getElem? hr, h1, fin r hr, h3⟩
theorem at_between {rs : List (Run α)} {a b y : Int} {v : α} (h : ∀ r ∈ rs, (r.1 ≤ a ∨ b ≤ r.1) ∧ (r.2.1 ≤ a ∨ b ≤ r.2.1)) (h1 : a ≤ y) (h2 : y < b) : AtR rs y v ↔ AtR rs a v := by
  constructor
  · rintro ⟨r, m, h3, h4, h5⟩
    have := h r m
    exact ⟨r, m, by omega, by omega, h5⟩
  · rintro ⟨r, m, h3, h4, h5⟩
    have := h r m
    exact ⟨r, m, by omega, by omega, h5⟩
/-- each run begins on the grid: there are few -/
theorem few_runs {rs : List (Run α)} (c : Canon rs) {Y : List Int} (h : ∀ y v, y ∉ Y → AtR rs y v → AtR rs (y - 1) v) : rs.length ≤ Y.length := by
  have nd : (rs.map (·.1)).Nodup := by
    refine List.pairwise_map.mpr ((List.pairwise_iff_getElem.mpr fun i j hi hj ij => ?_))
    have h1 := (List.pairwise_iff_getElem.mp c.2 i j hi hj ij).1
    have h2 := c.1 _ (List.getElem_mem hi)
    omega
  have l := nodup_len nd (qs := Y) fun y m => by
    obtain ⟨r, mr, rfl⟩ := List.mem_map.mp m
    refine Decidable.byContradiction fun n => ?_
    have lr := c.1 r mr
    obtain ⟨d, md, h1, h2, h3⟩ := h r.1 r.2.2 n ⟨r, mr, Int.le_refl _, lr, rfl⟩
    obtain ⟨i, hi, ei⟩ := List.getElem_of_mem md
    obtain ⟨j, hj, ej⟩ := List.getElem_of_mem mr
    rcases Nat.lt_trichotomy i j with l | e | l
    · have p := List.pairwise_iff_getElem.mp c.2 i j hi hj l
      rw [ei, ej] at p
      exact p.2 (by omega) h3
    · subst e
      rw [ei] at ej
      subst ej
      omega
    · have p := (List.pairwise_iff_getElem.mp c.2 j i hj hi l).1
      rw [ei, ej] at p
      omega
  rw [List.length_map] at l
  exact l
end
theorem inS_between {ss : List Span} {a b x : Int} (h : ∀ s ∈ ss, (s.1 ≤ a ∨ b ≤ s.1) ∧ (s.2 ≤ a ∨ b ≤ s.2)) (h1 : a ≤ x) (h2 : x < b) : InS ss x ↔ InS ss a := by
  rw [← inS_at, ← inS_at]
  refine at_between (fun r m => ?_) h1 h2
  obtain ⟨s, ms, rfl⟩ := List.mem_map.mp m
  exact h s ms
theorem ptB_between {bs : List Band} {a b x y : Int} (h : ∀ s ∈ bs, (s.1 ≤ a ∨ b ≤ s.1) ∧ (s.2.1 ≤ a ∨ b ≤ s.2.1)) (h1 : a ≤ y) (h2 : y < b) : PtB bs x y ↔ PtB bs x a := by
  unfold PtB
  exact exists_congr fun v => and_congr (at_between h h1 h2) Iff.rfl
/-- what both have, or the first one alone -/
theorem mix_spans {one other : List Span} {es : List Int} {fs : List (Int × Int)} {w : Bool} (asc : es.Pairwise (· < ·)) (edges : ∀ z, z ∈ es ↔ (∃ s ∈ one, z = s.1 ∨ z = s.2) ∨ ∃ s ∈ other, z = s.1 ∨ z = s.2)
    (h : ∀ p, p ∈ fs ↔ ∃ (k : Nat) (a b : Int), es[k]? = some a ∧ es[k + 1]? = some b ∧ p = (a, b) ∧ InS one a ∧ (InS other a ↔ w = true)) (x : Int) : (∃ p ∈ fs, p.1 ≤ x ∧ x < p.2) ↔ InS one x ∧ (InS other x ↔ w = true) := by
  have bet : ∀ {k : Nat} {a b : Int}, es[k]? = some a → es[k + 1]? = some b → a ≤ x → x < b → (InS one x ↔ InS one a) ∧ (InS other x ↔ InS other a) := fun {k a b} ha hb h1 h2 =>
    ⟨inS_between (fun s m => ⟨edge_no asc ha hb ((edges _).mpr (.inl ⟨s, m, .inl rfl⟩)), edge_no asc ha hb ((edges _).mpr (.inl ⟨s, m, .inr rfl⟩))⟩) h1 h2,
     inS_between (fun s m => ⟨edge_no asc ha hb ((edges _).mpr (.inr ⟨s, m, .inl rfl⟩)), edge_no asc ha hb ((edges _).mpr (.inr ⟨s, m, .inr rfl⟩))⟩) h1 h2⟩
  constructor
  · rintro ⟨p, m, h1, h2⟩
    obtain ⟨k, a, b, ha, hb, rfl, h3, h4⟩ := (h p).mp m
    obtain ⟨g1, g2⟩ := bet ha hb h1 h2
    exact ⟨g1.mpr h3, g2.trans h4⟩
  · rintro ⟨h3, h4⟩
    obtain ⟨s, m, s1, s2⟩ := id h3
    obtain ⟨k, a, b, ha, hb, h1, h2⟩ := edge_at asc ((edges _).mpr (.inl ⟨s, m, .inl rfl⟩)) ((edges _).mpr (.inl ⟨s, m, .inr rfl⟩)) s1 s2
    obtain ⟨g1, g2⟩ := bet ha hb h1 h2
    exact ⟨(a, b), (h _).mpr ⟨k, a, b, ha, hb, rfl, g1.mp h3, g2.symm.trans h4⟩, h1, h2⟩
theorem mix_bands {one other cs : List Band} {es : List Int} {w : Bool} (asc : es.Pairwise (· < ·)) (edges : ∀ z, z ∈ es ↔ (∃ s ∈ one, z = s.1 ∨ z = s.2.1) ∨ ∃ s ∈ other, z = s.1 ∨ z = s.2.1) (len : cs.length + 1 = es.length ∨ es = [] ∧ cs = [])
    (h : ∀ (i : Nat) (c : Band), cs[i]? = some c → ∃ a b, es[i]? = some a ∧ es[i + 1]? = some b ∧ c.1 = a ∧ c.2.1 = b ∧ SpanC c.2.2 ∧ ∀ x, InS c.2.2 x ↔ PtB one x a ∧ (PtB other x a ↔ w = true)) :
    (∀ b ∈ cs, b.1 ≤ b.2.1 ∧ SpanC b.2.2) ∧ cs.Pairwise (fun b c => b.2.1 ≤ c.1) ∧ ∀ x y, PtB cs x y ↔ PtB one x y ∧ (PtB other x y ↔ w = true) := by
  have step : ∀ {i : Nat} {a b : Int}, es[i]? = some a → es[i + 1]? = some b → a < b := fun {i a b} ha hb => by
    obtain ⟨l1, e1⟩ := List.getElem?_eq_some_iff.mp ha
    obtain ⟨l2, e2⟩ := List.getElem?_eq_some_iff.mp hb
    have := List.pairwise_iff_getElem.mp asc i (i + 1) l1 l2 (by omega)
    omega
  have bet : ∀ {k : Nat} {a b : Int} (x y : Int), es[k]? = some a → es[k + 1]? = some b → a ≤ y → y < b → (PtB one x y ↔ PtB one x a) ∧ (PtB other x y ↔ PtB other x a) := fun {k a b} x y ha hb h1 h2 =>
    ⟨ptB_between (fun s m => ⟨edge_no asc ha hb ((edges _).mpr (.inl ⟨s, m, .inl rfl⟩)), edge_no asc ha hb ((edges _).mpr (.inl ⟨s, m, .inr rfl⟩))⟩) h1 h2,
     ptB_between (fun s m => ⟨edge_no asc ha hb ((edges _).mpr (.inr ⟨s, m, .inl rfl⟩)), edge_no asc ha hb ((edges _).mpr (.inr ⟨s, m, .inr rfl⟩))⟩) h1 h2⟩
  refine ⟨fun c m => ?_, List.pairwise_iff_getElem.mpr fun i j hi hj ij => ?_, fun x y => ?_⟩
  · obtain ⟨i, hi, e⟩ := List.getElem_of_mem m
    obtain ⟨a, b, ha, hb, e1, e2, sc, _⟩ := h i c (by rw [List.getElem?_eq_getElem hi, e])
    have := step ha hb
    exact ⟨by omega, sc⟩
  · obtain ⟨a, b, ha, hb, e1, e2, _⟩ := h i _ (List.getElem?_eq_getElem hi)
    obtain ⟨a', b', ha', hb', e1', e2', _⟩ := h j _ (List.getElem?_eq_getElem hj)
    rw [e2, e1']
    obtain ⟨l1, q1⟩ := List.getElem?_eq_some_iff.mp hb
    obtain ⟨l2, q2⟩ := List.getElem?_eq_some_iff.mp ha'
    by_cases k : i + 1 = j
    · subst k
      omega
    · have := List.pairwise_iff_getElem.mp asc (i + 1) j l1 l2 (by omega)
      omega
  · constructor
    · rintro ⟨v, ⟨c, m, h1, h2, rfl⟩, hx⟩
      obtain ⟨i, hi, e⟩ := List.getElem_of_mem m
      obtain ⟨a, b, ha, hb, e1, e2, _, ins⟩ := h i c (by rw [List.getElem?_eq_getElem hi, e])
      obtain ⟨g1, g2⟩ := bet x y ha hb (by omega) (by omega)
      obtain ⟨h3, h4⟩ := (ins x).mp hx
      exact ⟨g1.mpr h3, g2.trans h4⟩
    · rintro ⟨h3, h4⟩
      obtain ⟨v, ⟨r, mr, b3, b4, _⟩, _⟩ := id h3
      obtain ⟨i, a, b, ha, hb, y1, y2⟩ := edge_at asc ((edges _).mpr (.inl ⟨r, mr, .inl rfl⟩)) ((edges _).mpr (.inl ⟨r, mr, .inr rfl⟩)) b3 b4
      have li := (List.getElem?_eq_some_iff.mp hb).1
      have lc : i < cs.length := by
        rcases len with l | ⟨l, _⟩
        · omega
        · rw [l] at li
          exact absurd li (Nat.not_lt_zero _)
      obtain ⟨a', b', ha', hb', e1, e2, _, ins⟩ := h i _ (List.getElem?_eq_getElem lc)
      rw [ha] at ha'
      rw [hb] at hb'
      cases ha'
      cases hb'
      obtain ⟨g1, g2⟩ := bet x y ha hb y1 y2
      exact ⟨_, ⟨cs[i], List.getElem_mem lc, by omega, by omega, rfl⟩, (ins x).mpr ⟨g1.mp h3, g2.symm.trans h4⟩⟩
/-- nothing changes but on the grid -/
def Grid (X Y : List Int) (S : Int → Int → Prop) : Prop := (∀ x y, x ∉ X → (S x y ↔ S (x - 1) y)) ∧ ∀ x y, y ∉ Y → (S x y ↔ S x (y - 1))
theorem Grid.congr {X Y : List Int} {S T : Int → Int → Prop} (g : Grid X Y S) (h : ∀ x y, T x y ↔ S x y) : Grid X Y T :=
  ⟨fun x y n => (h x y).trans ((g.1 x y n).trans (h _ y).symm), fun x y n => (h x y).trans ((g.2 x y n).trans (h x _).symm)⟩
theorem Grid.and {X Y : List Int} {S T : Int → Int → Prop} (g : Grid X Y S) (k : Grid X Y T) : Grid X Y fun x y => S x y ∧ T x y := ⟨fun x y n => and_congr (g.1 x y n) (k.1 x y n), fun x y n => and_congr (g.2 x y n) (k.2 x y n)⟩
theorem Grid.or {X Y : List Int} {S T : Int → Int → Prop} (g : Grid X Y S) (k : Grid X Y T) : Grid X Y fun x y => S x y ∨ T x y := ⟨fun x y n => or_congr (g.1 x y n) (k.1 x y n), fun x y n => or_congr (g.2 x y n) (k.2 x y n)⟩
theorem Grid.not {X Y : List Int} {S : Int → Int → Prop} (g : Grid X Y S) : Grid X Y fun x y => ¬ S x y := ⟨fun x y n => not_congr (g.1 x y n), fun x y n => not_congr (g.2 x y n)⟩
def edgesX (bs : List Box) : List Int := bs.flatMap fun b => [b.1, b.1 + b.2.2.1]
def edgesY (bs : List Box) : List Int := bs.flatMap fun b => [b.2.1, b.2.1 + b.2.2.2]
theorem len_edgesX (bs : List Box) : (edgesX bs).length = 2 * bs.length := by
  induction bs with
  | nil => rfl
  | cons b bs ih =>
    show ([b.1, b.1 + b.2.2.1] ++ edgesX bs).length = _
    rw [List.length_append, ih]
    show 2 + 2 * bs.length = 2 * (bs.length + 1)
    omega
theorem len_edgesY (bs : List Box) : (edgesY bs).length = 2 * bs.length := by
  induction bs with
  | nil => rfl
  | cons b bs ih =>
    show ([b.2.1, b.2.1 + b.2.2.2] ++ edgesY bs).length = _
    rw [List.length_append, ih]
    show 2 + 2 * bs.length = 2 * (bs.length + 1)
    omega
theorem grid_box {b : Box} {X Y : List Int} (h1 : b.1 ∈ X) (h2 : b.1 + b.2.2.1 ∈ X) (h3 : b.2.1 ∈ Y) (h4 : b.2.1 + b.2.2.2 ∈ Y) : Grid X Y fun x y => InBox b (x, y) := by
  refine ⟨fun x y n => ?_, fun x y n => ?_⟩
  · have n1 : x ≠ b.1 := fun z => n (z ▸ h1)
    have n2 : x ≠ b.1 + b.2.2.1 := fun z => n (z ▸ h2)
    unfold InBox
    dsimp only
    omega
  · have n1 : y ≠ b.2.1 := fun z => n (z ▸ h3)
    have n2 : y ≠ b.2.1 + b.2.2.2 := fun z => n (z ▸ h4)
    unfold InBox
    dsimp only
    omega
/-- a union of boxes of a list -/
theorem grid_boxes {as bs : List Box} (h : ∀ b ∈ as, b ∈ bs) : Grid (edgesX bs) (edgesY bs) fun x y => ∃ b ∈ as, InBox b (x, y) := by
  have g : ∀ b ∈ as, Grid (edgesX bs) (edgesY bs) fun x y => InBox b (x, y) := fun b m => by
    have mx : ∀ z ∈ [b.1, b.1 + b.2.2.1], z ∈ edgesX bs := fun z hz => List.mem_flatMap.mpr ⟨b, h b m, hz⟩
    have my : ∀ z ∈ [b.2.1, b.2.1 + b.2.2.2], z ∈ edgesY bs := fun z hz => List.mem_flatMap.mpr ⟨b, h b m, hz⟩
    exact grid_box (mx _ (by simp)) (mx _ (by simp)) (my _ (by simp)) (my _ (by simp))
  exact ⟨fun x y n => exists_congr fun b => and_congr_right fun m => (g b m).1 x y n, fun x y n => exists_congr fun b => and_congr_right fun m => (g b m).2 x y n⟩
theorem few_bands {cs : List Band} {X Y : List Int} (bc : BandC cs) (g : Grid X Y (PtB cs)) : cs.length ≤ Y.length ∧ ∀ c ∈ cs, c.2.2.length ≤ X.length := by
  have uniq : ∀ {y : Int} {v : List Span} {x : Int}, AtR cs y v → (PtB cs x y ↔ InS v x) := fun {y v x} a => ⟨fun ⟨u, b, h⟩ => by rw [atR_fun bc.1 a b]; exact h, fun h => ⟨v, a, h⟩⟩
  have val : ∀ {y : Int} {v : List Span}, AtR cs y v → SpanC v ∧ v ≠ [] := fun {y v} ⟨r, m, _, _, e⟩ => e ▸ bc.2 r m
  constructor
  · refine few_runs bc.1 fun y v n a => ?_
    obtain ⟨sc, ne⟩ := val a
    obtain ⟨x, hx⟩ := inS_some sc ne
    obtain ⟨u, b, hu⟩ := (g.2 x y n).mp ((uniq a).mpr hx)
    have e : u = v := span_uniq (val b).1 sc fun z => (uniq b).symm.trans ((g.2 z y n).symm.trans (uniq a))
    rw [← e]
    exact b
  · intro c m
    have lc := bc.1.1 c m
    have a : AtR cs c.1 c.2.2 := ⟨c, m, Int.le_refl _, lc, rfl⟩
    have l := few_runs (Y := X) (bc.2 c m).1 fun x v n h => by
      cases v
      exact inS_at.mpr ((uniq a).mp ((g.1 x c.1 n).mp ((uniq a).mpr (inS_at.mp h))))
    rw [List.length_map] at l
    exact l
/-- the ends of stretches -/
def endsS (ss : List Span) : List Int := ss.flatMap fun s => [s.1, s.2]
theorem endsS_app {a b : List Span} : endsS (a ++ b) = endsS a ++ endsS b := List.flatMap_append
theorem endsS_one {s : Span} : endsS [s] = [s.1, s.2] := rfl
theorem endsS_len (ss : List Span) : (endsS ss).length = 2 * ss.length := by
  induction ss with
  | nil => rfl
  | cons b bs ih =>
    show ([b.1, b.2] ++ endsS bs).length = _
    rw [List.length_append, ih]
    show 2 + 2 * bs.length = 2 * (bs.length + 1)
    omega
theorem mem_endsS {ss : List Span} {z : Int} : z ∈ endsS ss ↔ ∃ s ∈ ss, z = s.1 ∨ z = s.2 := by
  unfold endsS
  rw [List.mem_flatMap]
  exact exists_congr fun s => and_congr_right fun _ => by simp
/-- the first stretches end ahead of all edges that come -/
def DeadS (ss : List Span) (es : List Int) (t ii : Nat) : Prop := ∀ (k : Nat) (s : Span), k < ii → ss[k]? = some s → ∀ (j : Nat) (c : Int), t ≤ j → es[j]? = some c → s.2 ≤ c
theorem DeadS.next {ss : List Span} {es : List Int} {t ii mm : Nat} {c : Int} (d : DeadS ss es t ii) (asc : es.Pairwise (· < ·)) (hc : es[t]? = some c) (h : ∀ (k : Nat) (s : Span), ii ≤ k → k < mm → ss[k]? = some s → s.2 ≤ c) : DeadS ss es (t + 1) mm := fun k s hk hs j e hj he => by
  rcases Nat.lt_or_ge k ii with l | l
  · exact d k s l hs j e (by omega) he
  · have h1 := h k s l hk hs
    have := asc_at asc (by omega : t ≤ j) hc he
    omega
/-- is the row's place in it -/
theorem inS_idx {ss : List Span} {es : List Int} {t mm ii : Nat} {c : Int} (sc : SpanC ss) (d : DeadS ss es t ii) (hc : es[t]? = some c) (h : ∀ (k : Nat) (s : Span), ii ≤ k → k < mm → ss[k]? = some s → s.2 ≤ c) (fin : ∀ s, ss[mm]? = some s → c < s.2) : InS ss c ↔ ∃ s, ss[mm]? = some s ∧ s.1 ≤ c := by
  rw [← inS_at]
  refine (at_idx (ii := mm) sc (fun k r hk hr => ?_) (fun r hr => ?_)).trans ?_
  · rw [List.getElem?_map] at hr
    obtain ⟨s, hs, rfl⟩ := Option.map_eq_some_iff.mp hr
    rcases Nat.lt_or_ge k ii with l | l
    · exact d k s l hs t c (Nat.le_refl _) hc
    · exact h k s l hk hs
  · rw [List.getElem?_map] at hr
    obtain ⟨s, hs, rfl⟩ := Option.map_eq_some_iff.mp hr
    exact fin s hs
  · constructor
    · rintro ⟨r, hr, h1, _⟩
      rw [List.getElem?_map] at hr
      obtain ⟨s, hs, rfl⟩ := Option.map_eq_some_iff.mp hr
      exact ⟨s, hs, h1⟩
    · rintro ⟨s, hs, h1⟩
      exact ⟨asRun s, by rw [List.getElem?_map, hs]; rfl, h1, rfl⟩
end Lw
/-! Regions ten to the eleventh times as great; how many rectangles a region told by boxes has. -/
namespace Lw
open PySem PySem.Spec PyProof.Rows L2 Evl
def bigS (s : Span) : Span := (100000000000 * s.1, 100000000000 * s.2)
def bigBand (b : Band) : Band := (100000000000 * b.1, 100000000000 * b.2.1, b.2.2.map bigS)
theorem bigS_asRun (s : Span) : asRun (bigS s) = (100000000000 * (asRun s).1, 100000000000 * (asRun s).2.1, ()) := rfl
theorem canon_big {α β : Type} {f : α → β} (inj : ∀ a b, f a = f b → a = b) {rs : List (Run α)} (c : Canon rs) : Canon (rs.map fun r => ((100000000000 * r.1, 100000000000 * r.2.1, f r.2.2) : Run β)) := by
  refine ⟨fun r m => ?_, List.pairwise_map.mpr (c.2.imp fun {r s} ⟨h1, h2⟩ => ⟨?_, fun e => ?_⟩)⟩
  · obtain ⟨z, mz, rfl⟩ := List.mem_map.mp m
    have := c.1 z mz
    dsimp only
    omega
  · dsimp only
    omega
  · dsimp only at e ⊢
    exact fun z => h2 (by omega) (inj _ _ z)
theorem spanC_big {ss : List Span} (c : SpanC ss) : SpanC (ss.map bigS) := by
  have h := canon_big (f := fun u : Unit => u) (fun _ _ h => h) c
  unfold SpanC
  rw [List.map_map] at h ⊢
  exact h
theorem bigS_inj : ∀ {ss ts : List Span}, ss.map bigS = ts.map bigS → ss = ts
  | [], [], _ => rfl
  | [], _ :: _, h => nomatch h
  | _ :: _, [], h => nomatch h
  | (a1, a2) :: ss, (b1, b2) :: ts, h => by
    rw [List.map_cons, List.map_cons] at h
    injection h with e h
    rw [bigS_inj h]
    unfold bigS at e
    simp only [Prod.mk.injEq] at e
    have e1 : a1 = b1 := by omega
    have e2 : a2 = b2 := by omega
    rw [e1, e2]
theorem bandC_big {cs : List Band} (bc : BandC cs) : BandC (cs.map bigBand) := by
  refine ⟨canon_big (f := List.map bigS) (fun _ _ h => bigS_inj h) bc.1, fun b m => ?_⟩
  obtain ⟨c, mc, rfl⟩ := List.mem_map.mp m
  obtain ⟨h1, h2⟩ := bc.2 c mc
  refine ⟨spanC_big h1, fun z => h2 ?_⟩
  exact List.map_eq_nil_iff.mp z
theorem big_in {a b x : Int} : (100000000000 * a ≤ x ∧ x < 100000000000 * b) ↔ a ≤ x / 100000000000 ∧ x / 100000000000 < b := by omega
theorem inS_big {ss : List Span} {x : Int} : InS (ss.map bigS) x ↔ InS ss (x / 100000000000) := by
  constructor
  · rintro ⟨s, m, h⟩
    obtain ⟨t, mt, rfl⟩ := List.mem_map.mp m
    exact ⟨t, mt, big_in.mp h⟩
  · rintro ⟨s, m, h⟩
    exact ⟨_, List.mem_map.mpr ⟨s, m, rfl⟩, big_in.mpr h⟩
theorem ptB_big {cs : List Band} {x y : Int} : PtB (cs.map bigBand) x y ↔ PtB cs (x / 100000000000) (y / 100000000000) := by
  constructor
  · rintro ⟨v, ⟨b, m, h1, h2, rfl⟩, hx⟩
    obtain ⟨c, mc, rfl⟩ := List.mem_map.mp m
    have h := big_in.mp ⟨h1, h2⟩
    exact ⟨_, ⟨c, mc, h.1, h.2, rfl⟩, inS_big.mp hx⟩
  · rintro ⟨v, ⟨c, mc, h1, h2, rfl⟩, hx⟩
    have h := big_in.mpr ⟨h1, h2⟩
    exact ⟨_, ⟨_, List.mem_map.mpr ⟨c, mc, rfl⟩, h.1, h.2, rfl⟩, inS_big.mpr hx⟩
theorem inBox_big {b : Box} {x y : Int} : InBox (big b) (x, y) ↔ InBox b (x / 100000000000, y / 100000000000) := by
  unfold InBox big
  dsimp only
  omega
theorem union_big {bs : List Box} {x y : Int} : (∃ b ∈ bs.map big, InBox b (x, y)) ↔ ∃ b ∈ bs, InBox b (x / 100000000000, y / 100000000000) := by
  constructor
  · rintro ⟨b, m, h⟩
    obtain ⟨c, mc, rfl⟩ := List.mem_map.mp m
    exact ⟨c, mc, inBox_big.mp h⟩
  · rintro ⟨c, mc, h⟩
    exact ⟨_, List.mem_map.mpr ⟨c, mc, rfl⟩, inBox_big.mpr h⟩
theorem sum_big {ss : List Span} : ((ss.map bigS).map fun s => s.2 - s.1).sum = 100000000000 * (ss.map fun s => s.2 - s.1).sum := by
  induction ss with
  | nil => simp
  | cons s ss ih =>
    rw [List.map_cons, List.map_cons, List.map_cons, List.sum_cons, List.sum_cons, ih]
    unfold bigS
    dsimp only
    omega
theorem count_big {cs : List Band} : countB (cs.map bigBand) = 10000000000000000000000 * countB cs := by
  unfold countB
  induction cs with
  | nil => simp
  | cons c cs ih =>
    rw [List.map_cons, List.map_cons, List.map_cons, List.sum_cons, List.sum_cons, ih]
    have e : ((bigBand c).2.1 - (bigBand c).1) * (((bigBand c).2.2.map fun s => s.2 - s.1).sum) = 10000000000000000000000 * ((c.2.1 - c.1) * (c.2.2.map fun s => s.2 - s.1).sum) := by
      show (100000000000 * c.2.1 - 100000000000 * c.1) * ((c.2.2.map bigS).map fun s => s.2 - s.1).sum = _
      rw [sum_big, ← Int.mul_sub, show (10000000000000000000000 : Int) = 100000000000 * 100000000000 by decide]
      rw [Int.mul_assoc 100000000000 100000000000, Int.mul_assoc 100000000000 (c.2.1 - c.1), Int.mul_left_comm (c.2.1 - c.1)]
    rw [e, Int.mul_add]
end Lw
local macro_rules | `(tactic| fail "side") => `(tactic| first
  | ((with_reducible show (0 : Int) < _); omega)
  | ((with_reducible show L2.CMul _ _); unfold L2.CMul; omega)
  | ((with_reducible show L2.CDiv _ _); unfold L2.CDiv; omega)
  | ((with_reducible show L2.CPow _ _); unfold L2.CPow; decide)
  | ((with_reducible show (_ : Nat) ≤ _); refine Nat.le_trans ?_ Lw.line_ge; simp only [List.length_cons, List.length_nil, Nat.zero_add, Nat.reduceAdd]; decide)
  | ((with_reducible show (_ : Nat) < _); refine Nat.lt_of_lt_of_le ?_ Lw.line_ge; simp only [List.length_cons, List.length_nil, Nat.zero_add, Nat.reduceAdd]; decide)
  | ((with_reducible show (_ : Int) < _); first | omega | decide)
  | ((with_reducible show (_ : Int) ≤ _); first | omega | decide | (split <;> omega))
  | (show (0 : Int) < _; omega))
local macro_rules | `(tactic| fail "at1") => `(tactic| first
  | (with_reducible assumption)
  | ((with_reducible show L2.upd _ _ _ _ = _); first | exact L2.upd_same | exact Lw.upd_new (by with_reducible assumption) (by fail "at1"))
  | ((with_reducible show Lw.Minus _ _ _ = _); exact Lw.minus_at (Lw.ne_fresh (by with_reducible assumption) (by fail "at1")) (by fail "at1"))
  | exact Lw.ex_at (by with_reducible assumption) (by fail "at1"))
local macro_rules | `(tactic| fail "at") => `(tactic| ((with_reducible show (_ : Option L2.HO) = _); fail "at1"))
local macro_rules | `(tactic| fail "pool1") => `(tactic| first
  | (with_reducible assumption)
  | ((with_reducible show Lw.Pool (L2.upd _ _ _) _); exact Lw.Pool.new (by with_reducible assumption) (by fail "pool1"))
  | exact Lw.Pool.up (by with_reducible assumption) (by fail "pool1"))
local macro_rules | `(tactic| fail "pool") => `(tactic| ((with_reducible show Lw.Pool _ _); fail "pool1"))
local macro_rules | `(tactic| fail "th1") => `(tactic| first
  | (with_reducible assumption)
  | ((with_reducible show Lw.Th (L2.upd _ _ _) _ _); exact Lw.Th.new (by with_reducible assumption) (by fail "th1"))
  | exact Lw.Th.up (by with_reducible assumption) (by fail "th1"))
local macro_rules | `(tactic| fail "th") => `(tactic| ((with_reducible show Lw.Th _ _ _); fail "th1"))
local macro_rules | `(tactic| fail "sql1") => `(tactic| first
  | (apply Lw.sqlK; (with_reducible assumption); rfl)
  | exact L2.SqL.of (by fail "at1")
  | ((with_reducible show L2.SqL _ (L2.upd _ _ _) _ _); exact Evl.ex_l (Evl.Ex.new (by with_reducible assumption)) (by fail "sql1"))
  | exact Evl.ex_l (by with_reducible assumption) (by fail "sql1"))
local macro_rules | `(tactic| fail "sql") => `(tactic| ((with_reducible show L2.SqL _ _ _ _); fail "sql1"))
local macro_rules | `(tactic| fail "tu1") => `(tactic| first
  | (with_reducible assumption)
  | ((with_reducible show Lw.Tu (L2.upd _ _ _) _ _); exact Lw.Tu.up (Evl.Ex.new (by with_reducible assumption)) (by fail "tu1"))
  | exact Lw.Tu.up (by with_reducible assumption) (by fail "tu1"))
local macro_rules | `(tactic| fail "sqt1") => `(tactic| first
  | (apply Lw.sqtK; (with_reducible assumption); rfl)
  | exact Lw.Tu.sq (by fail "tu1")
  | exact L2.SqT.of (by fail "at1")
  | ((with_reducible show L2.SqT _ (L2.upd _ _ _) _ _); exact Evl.ex_t (Evl.Ex.new (by with_reducible assumption)) (by fail "sqt1"))
  | exact Evl.ex_t (by with_reducible assumption) (by fail "sqt1"))
local macro_rules | `(tactic| fail "sqt") => `(tactic| ((with_reducible show L2.SqT _ _ _ _); fail "sqt1"))
local macro_rules | `(tactic| fail "kd1") => `(tactic| first
  | (with_reducible assumption) | exact Lw.Kd.int _ | exact Lw.Kd.bl _ | exact Lw.Kd.str _ | exact Lw.Kd.non
  | exact Lw.Kd.tup (by fail "at1") | exact Lw.Kd.fz (by fail "at1") | exact Lw.Kd.lst (by fail "at1") | exact Lw.Kd.dK (by fail "at1")
  | ((with_reducible show Lw.Kd (L2.upd _ _ _) _ _); exact Lw.Kd.new (by with_reducible assumption) (by fail "kd1"))
  | exact Lw.Kd.up (by with_reducible assumption) (by fail "kd1"))
local macro_rules | `(tactic| fail "kd") => `(tactic| ((with_reducible show Lw.Kd _ _ _); fail "kd1"))
local macro_rules | `(tactic| fail "ati") => `(tactic| first
  | (with_reducible assumption)
  | ((with_reducible show L2.atI _ 0 = _); rfl)
  | ((with_reducible show L2.atI _ 1 = _); rfl)
  | ((with_reducible show L2.atI _ 2 = _); rfl)
  | ((with_reducible show L2.atI _ 3 = _); rfl)
  | ((with_reducible show L2.atI _ (-1) = _); rfl))
local macro_rules | `(tactic| fail "st") => `(tactic| first
  | (refine ⟨_, rfl, ?_⟩)
  | (refine ⟨_, _, rfl, rfl, ?_⟩)
  | (refine ⟨_, _, _, _, rfl, rfl, (by fail "sql"), (by fail "ati"), ?_⟩)
  | (refine ⟨_, _, _, _, rfl, rfl, (by fail "sqt"), (by fail "ati"), ?_⟩)
  | (refine ⟨_, _, _, _, rfl, rfl, (by fail "at"), rfl, ?_⟩)
  | (refine Or.inl ⟨_, _, _, _, rfl, rfl, (by fail "sql"), (by fail "ati"), ?_⟩)
  | (refine Or.inr (Or.inl ⟨_, _, _, _, rfl, rfl, (by fail "sqt"), (by fail "ati"), ?_⟩))
  | (refine ⟨_, _, _, _, rfl, (by fail "kd"), ?_⟩)
  | (refine ⟨_, _, rfl, Or.inl ⟨_, (by fail "sql"), rfl⟩, ?_⟩)
  | (refine ⟨_, _, rfl, Or.inr ⟨_, (by fail "sqt"), rfl⟩, ?_⟩)
  | (refine ⟨_, _, rfl, (by fail "sqt"), rfl, ?_⟩)
  | (refine ⟨_, _, rfl, (by fail "kd"), ?_⟩)
  | (refine ⟨_, _, rfl, (by fail "th"), ?_⟩)
  | (refine ⟨_, _, rfl, (by fail "sql"), ?_⟩)
  | (refine ⟨_, _, rfl, (by fail "sqt"), ?_⟩)
  | (refine ⟨(by fail "side"), ?_⟩)
  | (refine ⟨(by fail "pool"), ?_⟩)
  | (refine ⟨⟨_, (by fail "sqt")⟩, ?_⟩)
  | (refine ⟨⟨_, (by fail "sql")⟩, ?_⟩)
  | (refine ⟨_, _, rfl, ?_⟩)
  | (refine ⟨rfl, ?_⟩)
  | (refine ⟨_, _, _, _, _, rfl, L2.ClsV.ty _, Lw.Kd.ty (by fail "kd"), Lw.kit_k (by fail "kd") (by decide), ?_⟩))
namespace K14
open PySem PySem.Spec PyProof.Rows L2 Evl Lw
def topS (i : Nat) : Stmt := PySem.Challenge.pw_allscreens_k14_whole_regions_great_and_s.main.body.getD i (.Pass ⟨0, 0, 0, 0⟩)
abbrev s_wall : Stmt := topS 0
abbrev N_wall : List Str := ["k"]
theorem sc_wall : FnScope N_wall ["k"] (defScope s_wall) := ⟨rfl, rfl, rfl, by decide +kernel, rfl, by decide +kernel, by decide +kernel⟩
theorem b_wall : Lw.Bnd "_wall" s_wall ["k"] := fun _ _ _ _ _ _ us hl => match us, hl with | [_], _ => rfl
abbrev s_InvalidRect___init__ : Stmt := inClass (topS 3) 0
abbrev N_InvalidRect___init__ : List Str := ["self", "value"]
theorem sc_InvalidRect___init__ : FnScope N_InvalidRect___init__ ["self", "value"] (defScope s_InvalidRect___init__) := ⟨rfl, rfl, rfl, by decide +kernel, rfl, by decide +kernel, by decide +kernel⟩
abbrev s_InvalidNumber___init__ : Stmt := inClass (topS 4) 0
abbrev N_InvalidNumber___init__ : List Str := ["self", "value"]
theorem sc_InvalidNumber___init__ : FnScope N_InvalidNumber___init__ ["self", "value"] (defScope s_InvalidNumber___init__) := ⟨rfl, rfl, rfl, by decide +kernel, rfl, by decide +kernel, by decide +kernel⟩
abbrev s_is_integer : Stmt := topS 7
abbrev N_is_integer : List Str := ["value"]
theorem sc_is_integer : FnScope N_is_integer ["value"] (defScope s_is_integer) := ⟨rfl, rfl, rfl, by decide +kernel, rfl, by decide +kernel, by decide +kernel⟩
theorem b_is_integer : Lw.Bnd "is_integer" s_is_integer ["value"] := fun _ _ _ _ _ _ us hl => match us, hl with | [_], _ => rfl
abbrev s_is_between : Stmt := topS 8
abbrev N_is_between : List Str := ["value", "low", "high"]
theorem sc_is_between : FnScope N_is_between ["value", "low", "high"] (defScope s_is_between) := ⟨rfl, rfl, rfl, by decide +kernel, rfl, by decide +kernel, by decide +kernel⟩
theorem b_is_between : Lw.Bnd "is_between" s_is_between ["value", "low", "high"] := fun _ _ _ _ _ _ us hl => match us, hl with | [_, _, _], _ => rfl
abbrev s_is_number : Stmt := topS 9
abbrev N_is_number : List Str := ["value"]
theorem sc_is_number : FnScope N_is_number ["value"] (defScope s_is_number) := ⟨rfl, rfl, rfl, by decide +kernel, rfl, by decide +kernel, by decide +kernel⟩
theorem b_is_number : Lw.Bnd "is_number" s_is_number ["value"] := fun _ _ _ _ _ _ us hl => match us, hl with | [_], _ => rfl
abbrev s_is_rect : Stmt := topS 11
abbrev N_is_rect : List Str := ["value"]
theorem sc_is_rect : FnScope N_is_rect ["value"] (defScope s_is_rect) := ⟨rfl, rfl, rfl, by decide +kernel, rfl, by decide +kernel, by decide +kernel⟩
theorem b_is_rect : Lw.Bnd "is_rect" s_is_rect ["value"] := fun _ _ _ _ _ _ us hl => match us, hl with | [_], _ => rfl
abbrev s_check_rect : Stmt := topS 12
abbrev N_check_rect : List Str := ["value"]
theorem sc_check_rect : FnScope N_check_rect ["value"] (defScope s_check_rect) := ⟨rfl, rfl, rfl, by decide +kernel, rfl, by decide +kernel, by decide +kernel⟩
theorem b_check_rect : Lw.Bnd "check_rect" s_check_rect ["value"] := fun _ _ _ _ _ _ us hl => match us, hl with | [_], _ => rfl
abbrev s_joined_spans : Stmt := topS 14
abbrev N_joined_spans : List Str := ["spans", "found", "left", "right"]
theorem sc_joined_spans : FnScope N_joined_spans ["spans"] (defScope s_joined_spans) := ⟨rfl, rfl, rfl, by decide +kernel, rfl, by decide +kernel, by decide +kernel⟩
theorem b_joined_spans : Lw.Bnd "joined_spans" s_joined_spans ["spans"] := fun _ _ _ _ _ _ us hl => match us, hl with | [_], _ => rfl
abbrev s_joined_bands : Stmt := topS 15
abbrev N_joined_bands : List Str := ["bands", "found", "top", "bottom", "spans"]
theorem sc_joined_bands : FnScope N_joined_bands ["bands"] (defScope s_joined_bands) := ⟨rfl, rfl, rfl, by decide +kernel, rfl, by decide +kernel, by decide +kernel⟩
theorem b_joined_bands : Lw.Bnd "joined_bands" s_joined_bands ["bands"] := fun _ _ _ _ _ _ us hl => match us, hl with | [_], _ => rfl
abbrev s_bands_of : Stmt := topS 16
abbrev N_bands_of : List Str := ["rects", "whole", "edges", "found", "alive", "k", "top", "bottom", "x", "y", "width", "height", "row"]
theorem sc_bands_of : FnScope N_bands_of ["rects"] (defScope s_bands_of) := ⟨rfl, rfl, rfl, by decide +kernel, rfl, by decide +kernel, by decide +kernel⟩
theorem b_bands_of : Lw.Bnd "bands_of" s_bands_of ["rects"] := fun _ _ _ _ _ _ us hl => match us, hl with | [_], _ => rfl
abbrev s_spans_at : Stmt := topS 17
abbrev N_spans_at : List Str := ["bands", "k", "top"]
theorem sc_spans_at : FnScope N_spans_at ["bands", "k", "top"] (defScope s_spans_at) := ⟨rfl, rfl, rfl, by decide +kernel, rfl, by decide +kernel, by decide +kernel⟩
theorem b_spans_at : Lw.Bnd "spans_at" s_spans_at ["bands", "k", "top"] := fun _ _ _ _ _ _ us hl => match us, hl with | [_, _, _], _ => rfl
abbrev s_covers : Stmt := topS 18
abbrev N_covers : List Str := ["spans", "place", "left", "right"]
theorem sc_covers : FnScope N_covers ["spans", "place"] (defScope s_covers) := ⟨rfl, rfl, rfl, by decide +kernel, rfl, by decide +kernel, by decide +kernel⟩
theorem b_covers : Lw.Bnd "covers" s_covers ["spans", "place"] := fun _ _ _ _ _ _ us hl => match us, hl with | [_, _], _ => rfl
abbrev s_mixed_spans : Stmt := topS 19
abbrev N_mixed_spans : List Str := ["one", "other", "way", "edges", "found", "i", "j", "left", "right", "first", "second", "span", "edge"]
theorem sc_mixed_spans : FnScope N_mixed_spans ["one", "other", "way"] (defScope s_mixed_spans) := ⟨rfl, rfl, rfl, by decide +kernel, rfl, by decide +kernel, by decide +kernel⟩
theorem b_mixed_spans : Lw.Bnd "mixed_spans" s_mixed_spans ["one", "other", "way"] := fun _ _ _ _ _ _ us hl => match us, hl with | [_, _, _], _ => rfl
abbrev s_mixed_bands : Stmt := topS 20
abbrev N_mixed_bands : List Str := ["one", "other", "way", "edges", "found", "i", "j", "top", "bottom", "band", "edge"]
theorem sc_mixed_bands : FnScope N_mixed_bands ["one", "other", "way"] (defScope s_mixed_bands) := ⟨rfl, rfl, rfl, by decide +kernel, rfl, by decide +kernel, by decide +kernel⟩
theorem b_mixed_bands : Lw.Bnd "mixed_bands" s_mixed_bands ["one", "other", "way"] := fun _ _ _ _ _ _ us hl => match us, hl with | [_, _, _], _ => rfl
abbrev s_Region___init__ : Stmt := inClass (topS 21) 0
abbrev N_Region___init__ : List Str := ["self", "bands", "rects", "rect"]
theorem sc_Region___init__ : FnScope N_Region___init__ ["self", "bands", "rects"] (defScope s_Region___init__) := ⟨rfl, rfl, rfl, by decide +kernel, rfl, by decide +kernel, by decide +kernel⟩
abbrev s_Region_of_surface : Stmt := inClass (topS 21) 1
abbrev N_Region_of_surface : List Str := ["cls", "stage", "surface"]
theorem sc_Region_of_surface : FnScope N_Region_of_surface ["cls", "stage", "surface"] (defScope s_Region_of_surface) := ⟨rfl, rfl, rfl, by decide +kernel, rfl, by decide +kernel, by decide +kernel⟩
abbrev s_Region_rects : Stmt := inClass (topS 21) 2
abbrev N_Region_rects : List Str := ["self", "top", "bottom", "spans", "left", "right"]
theorem sc_Region_rects : FnScope N_Region_rects ["self"] (defScope s_Region_rects) := ⟨rfl, rfl, rfl, by decide +kernel, rfl, by decide +kernel, by decide +kernel⟩
abbrev s_Region_points : Stmt := inClass (topS 21) 3
abbrev N_Region_points : List Str := ["self", "top", "bottom", "spans", "left", "right"]
theorem sc_Region_points : FnScope N_Region_points ["self"] (defScope s_Region_points) := ⟨rfl, rfl, rfl, by decide +kernel, rfl, by decide +kernel, by decide +kernel⟩
abbrev s_Region___len__ : Stmt := inClass (topS 21) 4
abbrev N_Region___len__ : List Str := ["self"]
theorem sc_Region___len__ : FnScope N_Region___len__ ["self"] (defScope s_Region___len__) := ⟨rfl, rfl, rfl, by decide +kernel, rfl, by decide +kernel, by decide +kernel⟩
abbrev s_Region___contains__ : Stmt := inClass (topS 21) 5
abbrev N_Region___contains__ : List Str := ["self", "value", "x", "y", "top", "bottom", "spans"]
theorem sc_Region___contains__ : FnScope N_Region___contains__ ["self", "value"] (defScope s_Region___contains__) := ⟨rfl, rfl, rfl, by decide +kernel, rfl, by decide +kernel, by decide +kernel⟩
abbrev s_Region___eq__ : Stmt := inClass (topS 21) 6
abbrev N_Region___eq__ : List Str := ["self", "other"]
theorem sc_Region___eq__ : FnScope N_Region___eq__ ["self", "other"] (defScope s_Region___eq__) := ⟨rfl, rfl, rfl, by decide +kernel, rfl, by decide +kernel, by decide +kernel⟩
abbrev s_Region___or__ : Stmt := inClass (topS 21) 7
abbrev N_Region___or__ : List Str := ["self", "other"]
theorem sc_Region___or__ : FnScope N_Region___or__ ["self", "other"] (defScope s_Region___or__) := ⟨rfl, rfl, rfl, by decide +kernel, rfl, by decide +kernel, by decide +kernel⟩
abbrev s_Region___and__ : Stmt := inClass (topS 21) 8
abbrev N_Region___and__ : List Str := ["self", "other"]
theorem sc_Region___and__ : FnScope N_Region___and__ ["self", "other"] (defScope s_Region___and__) := ⟨rfl, rfl, rfl, by decide +kernel, rfl, by decide +kernel, by decide +kernel⟩
abbrev s_Region___sub__ : Stmt := inClass (topS 21) 9
abbrev N_Region___sub__ : List Str := ["self", "other"]
theorem sc_Region___sub__ : FnScope N_Region___sub__ ["self", "other"] (defScope s_Region___sub__) := ⟨rfl, rfl, rfl, by decide +kernel, rfl, by decide +kernel, by decide +kernel⟩
abbrev s_Region___repr__ : Stmt := inClass (topS 21) 10
abbrev N_Region___repr__ : List Str := ["self"]
theorem sc_Region___repr__ : FnScope N_Region___repr__ ["self"] (defScope s_Region___repr__) := ⟨rfl, rfl, rfl, by decide +kernel, rfl, by decide +kernel, by decide +kernel⟩
abbrev s_line_start : Stmt := topS 23
abbrev N_line_start : List Str := ["start", "extent", "offset", "turned"]
theorem sc_line_start : FnScope N_line_start ["start", "extent", "offset", "turned"] (defScope s_line_start) := ⟨rfl, rfl, rfl, by decide +kernel, rfl, by decide +kernel, by decide +kernel⟩
theorem b_line_start : Lw.Bnd "line_start" s_line_start ["start", "extent", "offset", "turned"] := fun _ _ _ _ _ _ us hl => match us, hl with | [_, _, _, _], _ => rfl
abbrev s_Mirror___init__ : Stmt := inClass (topS 24) 0
abbrev N_Mirror___init__ : List Str := ["self", "x", "y", "across", "down"]
theorem sc_Mirror___init__ : FnScope N_Mirror___init__ ["self", "x", "y", "across", "down"] (defScope s_Mirror___init__) := ⟨rfl, rfl, rfl, by decide +kernel, rfl, by decide +kernel, by decide +kernel⟩
abbrev s_Mirror___call__ : Stmt := inClass (topS 24) 1
abbrev N_Mirror___call__ : List Str := ["self", "u", "v", "x", "across", "y", "down"]
theorem sc_Mirror___call__ : FnScope N_Mirror___call__ ["self", "u", "v"] (defScope s_Mirror___call__) := ⟨rfl, rfl, rfl, by decide +kernel, rfl, by decide +kernel, by decide +kernel⟩
abbrev s_Mirror___eq__ : Stmt := inClass (topS 24) 2
abbrev N_Mirror___eq__ : List Str := ["self", "other"]
theorem sc_Mirror___eq__ : FnScope N_Mirror___eq__ ["self", "other"] (defScope s_Mirror___eq__) := ⟨rfl, rfl, rfl, by decide +kernel, rfl, by decide +kernel, by decide +kernel⟩
abbrev s_Mirror___mul__ : Stmt := inClass (topS 24) 3
abbrev N_Mirror___mul__ : List Str := ["self", "other", "x", "across", "y", "down", "u", "over", "v", "below"]
theorem sc_Mirror___mul__ : FnScope N_Mirror___mul__ ["self", "other"] (defScope s_Mirror___mul__) := ⟨rfl, rfl, rfl, by decide +kernel, rfl, by decide +kernel, by decide +kernel⟩
abbrev s_Mirror___invert__ : Stmt := inClass (topS 24) 4
abbrev N_Mirror___invert__ : List Str := ["self", "x", "across", "y", "down"]
theorem sc_Mirror___invert__ : FnScope N_Mirror___invert__ ["self"] (defScope s_Mirror___invert__) := ⟨rfl, rfl, rfl, by decide +kernel, rfl, by decide +kernel, by decide +kernel⟩
abbrev s_Mirror___repr__ : Stmt := inClass (topS 24) 5
abbrev N_Mirror___repr__ : List Str := ["self", "x", "across", "y", "down", "ways", "word", "is_so"]
theorem sc_Mirror___repr__ : FnScope N_Mirror___repr__ ["self"] (defScope s_Mirror___repr__) := ⟨rfl, rfl, rfl, by decide +kernel, rfl, by decide +kernel, by decide +kernel⟩
abbrev s_Mirror_image : Stmt := inClass (topS 24) 6
abbrev N_Mirror_image : List Str := ["self", "rect"]
theorem sc_Mirror_image : FnScope N_Mirror_image ["self", "rect"] (defScope s_Mirror_image) := ⟨rfl, rfl, rfl, by decide +kernel, rfl, by decide +kernel, by decide +kernel⟩
abbrev s_Mirror_moved : Stmt := inClass (topS 24) 7
abbrev N_Mirror_moved : List Str := ["self", "rect", "x", "across", "y", "down"]
theorem sc_Mirror_moved : FnScope N_Mirror_moved ["self", "rect"] (defScope s_Mirror_moved) := ⟨rfl, rfl, rfl, by decide +kernel, rfl, by decide +kernel, by decide +kernel⟩
abbrev s_Mirror_meets : Stmt := inClass (topS 24) 8
abbrev N_Mirror_meets : List Str := ["self", "other_mirror", "rect"]
theorem sc_Mirror_meets : FnScope N_Mirror_meets ["self", "other_mirror", "rect"] (defScope s_Mirror_meets) := ⟨rfl, rfl, rfl, by decide +kernel, rfl, by decide +kernel, by decide +kernel⟩
abbrev s_Mirror_agrees : Stmt := inClass (topS 24) 9
abbrev N_Mirror_agrees : List Str := ["self", "other_mirror", "rect"]
theorem sc_Mirror_agrees : FnScope N_Mirror_agrees ["self", "other_mirror", "rect"] (defScope s_Mirror_agrees) := ⟨rfl, rfl, rfl, by decide +kernel, rfl, by decide +kernel, by decide +kernel⟩
abbrev s_law_cell : Stmt := topS 26
abbrev N_law_cell : List Str := ["_law_script", "_law_k", "_law_state_here", "_law_cell_here"]
theorem sc_law_cell : FnScope N_law_cell ["_law_script", "_law_k"] (defScope s_law_cell) := ⟨rfl, rfl, rfl, by decide +kernel, rfl, by decide +kernel, by decide +kernel⟩
theorem b_law_cell : Lw.Bnd "_law_cell" s_law_cell ["_law_script", "_law_k"] := fun _ _ _ _ _ _ us hl => match us, hl with | [_, _], _ => rfl
abbrev s_law_pool : Stmt := topS 27
abbrev N_law_pool : List Str := ["_law_cell_here", "_law_digits"]
theorem sc_law_pool : FnScope N_law_pool ["_law_cell_here"] (defScope s_law_pool) := ⟨rfl, rfl, rfl, by decide +kernel, rfl, by decide +kernel, by decide +kernel⟩
theorem b_law_pool : Lw.Bnd "_law_pool" s_law_pool ["_law_cell_here"] := fun _ _ _ _ _ _ us hl => match us, hl with | [_], _ => rfl
abbrev s_law_draw : Stmt := topS 28
abbrev N_law_draw : List Str := ["_law_pool_here", "_law_many", "_law_old", "_law_digit"]
theorem sc_law_draw : FnScope N_law_draw ["_law_pool_here", "_law_many"] (defScope s_law_draw) := ⟨rfl, rfl, rfl, by decide +kernel, rfl, by decide +kernel, by decide +kernel⟩
theorem b_law_draw : Lw.Bnd "_law_draw" s_law_draw ["_law_pool_here", "_law_many"] := fun _ _ _ _ _ _ us hl => match us, hl with | [_, _], _ => rfl
abbrev s_law_box : Stmt := topS 29
abbrev N_law_box : List Str := ["_law_pool_here"]
theorem sc_law_box : FnScope N_law_box ["_law_pool_here"] (defScope s_law_box) := ⟨rfl, rfl, rfl, by decide +kernel, rfl, by decide +kernel, by decide +kernel⟩
theorem b_law_box : Lw.Bnd "_law_box" s_law_box ["_law_pool_here"] := fun _ _ _ _ _ _ us hl => match us, hl with | [_], _ => rfl
abbrev s_law_great : Stmt := topS 30
abbrev N_law_great : List Str := ["_law_box_here", "_law_place"]
theorem sc_law_great : FnScope N_law_great ["_law_box_here"] (defScope s_law_great) := ⟨rfl, rfl, rfl, by decide +kernel, rfl, by decide +kernel, by decide +kernel⟩
theorem b_law_great : Lw.Bnd "_law_great" s_law_great ["_law_box_here"] := fun _ _ _ _ _ _ us hl => match us, hl with | [_], _ => rfl
abbrev s_law_left : Stmt := topS 31
abbrev N_law_left : List Str := ["_law_some", "_law_off", "_law_grown", "_law_field", "_law_box_here"]
theorem sc_law_left : FnScope N_law_left ["_law_some", "_law_off", "_law_grown"] (defScope s_law_left) := ⟨rfl, rfl, rfl, by decide +kernel, rfl, by decide +kernel, by decide +kernel⟩
theorem b_law_left : Lw.Bnd "_law_left" s_law_left ["_law_some", "_law_off", "_law_grown"] := fun _ _ _ _ _ _ us hl => match us, hl with | [_, _, _], _ => rfl
abbrev s_law_grown_right : Stmt := topS 32
abbrev N_law_grown_right : List Str := ["_law_pool_here", "_law_small", "_law_great_here", "_law_turn", "_law_x", "_law_y", "_law_far", "_law_rect"]
theorem sc_law_grown_right : FnScope N_law_grown_right ["_law_pool_here", "_law_small", "_law_great_here"] (defScope s_law_grown_right) := ⟨rfl, rfl, rfl, by decide +kernel, rfl, by decide +kernel, by decide +kernel⟩
theorem b_law_grown_right : Lw.Bnd "_law_grown_right" s_law_grown_right ["_law_pool_here", "_law_small", "_law_great_here"] := fun _ _ _ _ _ _ us hl => match us, hl with | [_, _, _], _ => rfl
abbrev s_law_mirrored_right : Stmt := topS 33
abbrev N_law_mirrored_right : List Str := ["_law_pool_here", "_law_field", "_law_way", "_law_map_here", "_law_there", "_law_back", "_law_rect", "_law_turn", "_law_spot"]
theorem sc_law_mirrored_right : FnScope N_law_mirrored_right ["_law_pool_here", "_law_field"] (defScope s_law_mirrored_right) := ⟨rfl, rfl, rfl, by decide +kernel, rfl, by decide +kernel, by decide +kernel⟩
theorem b_law_mirrored_right : Lw.Bnd "_law_mirrored_right" s_law_mirrored_right ["_law_pool_here", "_law_field"] := fun _ _ _ _ _ _ us hl => match us, hl with | [_, _], _ => rfl
abbrev s_law_cut_right : Stmt := topS 34
abbrev N_law_cut_right : List Str := ["_law_pool_here", "_law_field", "_law_place", "_law_wide", "_law_corner", "_law_half", "_law_first", "_law_second", "_law_rest", "_law_seen", "_law_rect", "_law_one"]
theorem sc_law_cut_right : FnScope N_law_cut_right ["_law_pool_here", "_law_field"] (defScope s_law_cut_right) := ⟨rfl, rfl, rfl, by decide +kernel, rfl, by decide +kernel, by decide +kernel⟩
theorem b_law_cut_right : Lw.Bnd "_law_cut_right" s_law_cut_right ["_law_pool_here", "_law_field"] := fun _ _ _ _ _ _ us hl => match us, hl with | [_, _], _ => rfl
abbrev s_law_far_right : Stmt := topS 35
abbrev N_law_far_right : List Str := ["_law_pool_here", "_law_far", "_law_wide", "_law_field", "_law_told"]
theorem sc_law_far_right : FnScope N_law_far_right ["_law_pool_here"] (defScope s_law_far_right) := ⟨rfl, rfl, rfl, by decide +kernel, rfl, by decide +kernel, by decide +kernel⟩
theorem b_law_far_right : Lw.Bnd "_law_far_right" s_law_far_right ["_law_pool_here"] := fun _ _ _ _ _ _ us hl => match us, hl with | [_], _ => rfl
abbrev s_law : Stmt := topS 36
abbrev N_law : List Str := ["_law_script", "_law_k", "_law_pool_here", "_law_turn", "_law_some", "_law_off", "_law_small", "_law_great_here", "_law_j"]
theorem sc_law : FnScope N_law ["_law_script"] (defScope s_law) := ⟨rfl, rfl, rfl, by decide +kernel, rfl, by decide +kernel, by decide +kernel⟩
theorem b_law : Lw.Bnd "law" s_law ["_law_script"] := fun _ _ _ _ _ _ us hl => match us, hl with | [_], _ => rfl
theorem bt_ValueError : bootBuiltins "ValueError" = some (.type "ValueError") := by decide +kernel
theorem bt_abs : bootBuiltins "abs" = some (.builtin "abs") := by decide +kernel
theorem bt_any : bootBuiltins "any" = some (.builtin "any") := by decide +kernel
theorem bt_bool : bootBuiltins "bool" = some (.type "bool") := by decide +kernel
theorem bt_divmod : bootBuiltins "divmod" = some (.builtin "divmod") := by decide +kernel
theorem bt_int : bootBuiltins "int" = some (.type "int") := by decide +kernel
theorem bt_isinstance : bootBuiltins "isinstance" = some (.builtin "isinstance") := by decide +kernel
theorem bt_len : bootBuiltins "len" = some (.builtin "len") := by decide +kernel
theorem bt_max : bootBuiltins "max" = some (.builtin "max") := by decide +kernel
theorem bt_min : bootBuiltins "min" = some (.builtin "min") := by decide +kernel
theorem bt_range : bootBuiltins "range" = some (.type "range") := by decide +kernel
theorem bt_set : bootBuiltins "set" = some (.type "set") := by decide +kernel
theorem bt_sorted : bootBuiltins "sorted" = some (.builtin "sorted") := by decide +kernel
theorem bt_str : bootBuiltins "str" = some (.type "str") := by decide +kernel
theorem bt_sum : bootBuiltins "sum" = some (.builtin "sum") := by decide +kernel
theorem bt_tuple : bootBuiltins "tuple" = some (.type "tuple") := by decide +kernel
theorem bt_zip : bootBuiltins "zip" = some (.type "zip") := by decide +kernel
theorem bm_Mirror___call__ : Lw.BndM "__call__" "Mirror.__call__" s_Mirror___call__ ["self", "u", "v"] := fun _ _ _ _ _ _ us hl => match us, hl with | [_, _, _], _ => rfl
theorem bm_Mirror___eq__ : Lw.BndM "__eq__" "Mirror.__eq__" s_Mirror___eq__ ["self", "other"] := fun _ _ _ _ _ _ us hl => match us, hl with | [_, _], _ => rfl
theorem bm_Mirror___mul__ : Lw.BndM "__mul__" "Mirror.__mul__" s_Mirror___mul__ ["self", "other"] := fun _ _ _ _ _ _ us hl => match us, hl with | [_, _], _ => rfl
theorem bm_Mirror___invert__ : Lw.BndM "__invert__" "Mirror.__invert__" s_Mirror___invert__ ["self"] := fun _ _ _ _ _ _ us hl => match us, hl with | [_], _ => rfl
theorem bm_Mirror___repr__ : Lw.BndM "__repr__" "Mirror.__repr__" s_Mirror___repr__ ["self"] := fun _ _ _ _ _ _ us hl => match us, hl with | [_], _ => rfl
theorem bm_Mirror_image : Lw.BndM "image" "Mirror.image" s_Mirror_image ["self", "rect"] := fun _ _ _ _ _ _ us hl => match us, hl with | [_, _], _ => rfl
theorem bm_Mirror_moved : Lw.BndM "moved" "Mirror.moved" s_Mirror_moved ["self", "rect"] := fun _ _ _ _ _ _ us hl => match us, hl with | [_, _], _ => rfl
theorem bm_Mirror_meets : Lw.BndM "meets" "Mirror.meets" s_Mirror_meets ["self", "other_mirror", "rect"] := fun _ _ _ _ _ _ us hl => match us, hl with | [_, _, _], _ => rfl
theorem bm_Mirror_agrees : Lw.BndM "agrees" "Mirror.agrees" s_Mirror_agrees ["self", "other_mirror", "rect"] := fun _ _ _ _ _ _ us hl => match us, hl with | [_, _, _], _ => rfl
theorem bm_Region___len__ : Lw.BndM "__len__" "Region.__len__" s_Region___len__ ["self"] := fun _ _ _ _ _ _ us hl => match us, hl with | [_], _ => rfl
theorem bm_Region___contains__ : Lw.BndM "__contains__" "Region.__contains__" s_Region___contains__ ["self", "value"] := fun _ _ _ _ _ _ us hl => match us, hl with | [_, _], _ => rfl
theorem bm_Region___or__ : Lw.BndM "__or__" "Region.__or__" s_Region___or__ ["self", "other"] := fun _ _ _ _ _ _ us hl => match us, hl with | [_, _], _ => rfl
theorem bm_Region___and__ : Lw.BndM "__and__" "Region.__and__" s_Region___and__ ["self", "other"] := fun _ _ _ _ _ _ us hl => match us, hl with | [_, _], _ => rfl
theorem bm_Region___sub__ : Lw.BndM "__sub__" "Region.__sub__" s_Region___sub__ ["self", "other"] := fun _ _ _ _ _ _ us hl => match us, hl with | [_, _], _ => rfl
theorem bm_Region___eq__ : Lw.BndM "__eq__" "Region.__eq__" s_Region___eq__ ["self", "other"] := fun _ _ _ _ _ _ us hl => match us, hl with | [_, _], _ => rfl
theorem bm_Region_rects : Lw.BndM "rects" "Region.rects" s_Region_rects ["self"] := fun _ _ _ _ _ _ us hl => match us, hl with | [_], _ => rfl
theorem bm_Region_points : Lw.BndM "points" "Region.points" s_Region_points ["self"] := fun _ _ _ _ _ _ us hl => match us, hl with | [_], _ => rfl
theorem bi_Region___init__ : Lw.BndR "Region.__init__" s_Region___init__ "self" "bands" "rects" := ⟨fun _ _ _ _ _ _ _ rest => by cases rest <;> exact ⟨_, _, _, _, _, _, rfl, rfl, rfl⟩, fun _ _ _ _ _ _ _ _ => rfl⟩
structure Own_Region (K : PySem.W.Frag) (mg : Str → Option Value) (C : Addr) : Prop where
  ow : Lw.OwnC K mg "Region" C "bands"
  ini : Lw.InitR K C "Region.__init__" s_Region___init__ "bands"
  nb : PySem.W.findIn K (.ref C) "__bool__" = some none
  m___len__ : Lw.MethC K C "__len__" "Region.__len__" s_Region___len__
  m___contains__ : Lw.MethC K C "__contains__" "Region.__contains__" s_Region___contains__
  m___or__ : Lw.MethC K C "__or__" "Region.__or__" s_Region___or__
  m___and__ : Lw.MethC K C "__and__" "Region.__and__" s_Region___and__
  m___sub__ : Lw.MethC K C "__sub__" "Region.__sub__" s_Region___sub__
  m___eq__ : Lw.MethC K C "__eq__" "Region.__eq__" s_Region___eq__
  p_rects : Lw.PropC K C "rects" "Region.rects" s_Region_rects
  p_points : Lw.PropC K C "points" "Region.points" s_Region_points
def gk_bi_Mirror___init___2_across_down {α : Type} : List α → List α → List α → List α | [u0, u1, u2], [], [z0, z1] => [u0, u1, u2, z0, z1] | _, _, _ => []
theorem rk_bi_Mirror___init___2_across_down {a0 a1 a2 : List V} {b0 b1 b2 : List Value} (h0 : Vals a0 b0) (h1 : Vals a1 b1) (h2 : Vals a2 b2) : Vals (gk_bi_Mirror___init___2_across_down a0 a1 a2) (gk_bi_Mirror___init___2_across_down b0 b1 b2) := by
  have l0 := Paired.length h0
  have l1 := Paired.length h1
  have l2 := Paired.length h2
  by_cases hh : a0.length = 3 ∧ a1.length = 0 ∧ a2.length = 2
  · obtain ⟨k0, k1, k2⟩ := hh
    match a0, b0, h0, k0, a1, b1, h1, k1, a2, b2, h2, k2 with
    | [_, _, _], [_, _, _], .cons x0a (.cons x0b (.cons x0c (.nil))), _, [], [], .nil, _, [_, _], [_, _], .cons x2a (.cons x2b (.nil)), _ => exact .cons x0a (.cons x0b (.cons x0c (.cons x2a (.cons x2b (.nil)))))
  · have e1 : gk_bi_Mirror___init___2_across_down a0 a1 a2 = [] := by
      unfold gk_bi_Mirror___init___2_across_down; split
      · exact absurd ⟨rfl, rfl, rfl⟩ hh
      · rfl
    have hb : ¬ (b0.length = 3 ∧ b1.length = 0 ∧ b2.length = 2) := by
      rw [← l0, ← l1, ← l2]
      exact hh
    have e2 : gk_bi_Mirror___init___2_across_down b0 b1 b2 = [] := by
      unfold gk_bi_Mirror___init___2_across_down; split
      · exact absurd ⟨rfl, rfl, rfl⟩ hb
      · rfl
    rw [e1, e2]
    exact .nil
theorem bi_Mirror___init___2_across_down : Lw.BndI "Mirror.__init__" s_Mirror___init__ ["self", "x", "y", "across", "down"] 3 ["across", "down"] [] (fun {_} => gk_bi_Mirror___init___2_across_down) := fun _ _ _ _ _ _ us mv ws h1 h2 h3 => match us, h1, mv, h2, ws, h3 with | [_, _, _], _, [], _, [_, _], _ => rfl
structure Own_Mirror (K : PySem.W.Frag) (mg : Str → Option Value) (C : Addr) : Prop where
  ow : Lw.OwnC K mg "Mirror" C "lines"
  ini : Lw.InitC K C "Mirror.__init__" s_Mirror___init__ [("across", .bl false), ("down", .bl false)]
  m___call__ : Lw.MethC K C "__call__" "Mirror.__call__" s_Mirror___call__
  m___eq__ : Lw.MethC K C "__eq__" "Mirror.__eq__" s_Mirror___eq__
  m___mul__ : Lw.MethC K C "__mul__" "Mirror.__mul__" s_Mirror___mul__
  m___invert__ : Lw.MethC K C "__invert__" "Mirror.__invert__" s_Mirror___invert__
  m_image : Lw.MethC K C "image" "Mirror.image" s_Mirror_image
  m_moved : Lw.MethC K C "moved" "Mirror.moved" s_Mirror_moved
/-- what stands behind the top -/
structure Txt (K : PySem.W.Frag) (mg : Str → Option Value) : Prop where
  d_wall : Lw.DefAt K mg "_wall" s_wall
  d_is_integer : Lw.DefAt K mg "is_integer" s_is_integer
  d_is_between : Lw.DefAt K mg "is_between" s_is_between
  d_is_number : Lw.DefAt K mg "is_number" s_is_number
  d_is_rect : Lw.DefAt K mg "is_rect" s_is_rect
  d_check_rect : Lw.DefAt K mg "check_rect" s_check_rect
  d_joined_spans : Lw.DefAt K mg "joined_spans" s_joined_spans
  d_joined_bands : Lw.DefAt K mg "joined_bands" s_joined_bands
  d_bands_of : Lw.DefAt K mg "bands_of" s_bands_of
  d_spans_at : Lw.DefAt K mg "spans_at" s_spans_at
  d_covers : Lw.DefAt K mg "covers" s_covers
  d_mixed_spans : Lw.DefAt K mg "mixed_spans" s_mixed_spans
  d_mixed_bands : Lw.DefAt K mg "mixed_bands" s_mixed_bands
  d_line_start : Lw.DefAt K mg "line_start" s_line_start
  d_law_cell : Lw.DefAt K mg "_law_cell" s_law_cell
  d_law_pool : Lw.DefAt K mg "_law_pool" s_law_pool
  d_law_draw : Lw.DefAt K mg "_law_draw" s_law_draw
  d_law_box : Lw.DefAt K mg "_law_box" s_law_box
  d_law_great : Lw.DefAt K mg "_law_great" s_law_great
  d_law_left : Lw.DefAt K mg "_law_left" s_law_left
  d_law_grown_right : Lw.DefAt K mg "_law_grown_right" s_law_grown_right
  d_law_mirrored_right : Lw.DefAt K mg "_law_mirrored_right" s_law_mirrored_right
  d_law_cut_right : Lw.DefAt K mg "_law_cut_right" s_law_cut_right
  d_law_far_right : Lw.DefAt K mg "_law_far_right" s_law_far_right
  d_law : Lw.DefAt K mg "law" s_law
  b_ValueError : mg "ValueError" = none
  b_abs : mg "abs" = none
  b_any : mg "any" = none
  b_bool : mg "bool" = none
  b_divmod : mg "divmod" = none
  b_int : mg "int" = none
  b_isinstance : mg "isinstance" = none
  b_len : mg "len" = none
  b_max : mg "max" = none
  b_min : mg "min" = none
  b_range : mg "range" = none
  b_set : mg "set" = none
  b_sorted : mg "sorted" = none
  b_str : mg "str" = none
  b_sum : mg "sum" = none
  b_tuple : mg "tuple" = none
  b_zip : mg "zip" = none
  o_Mirror : ∃ C, Own_Mirror K mg C
  o_Region : ∃ C, Own_Region K mg C
  g_MOST_SIZE : ∃ u, mg "MOST_SIZE" = some u ∧ RelV (.int 1000000000000) u

end K14
namespace K14
open PySem PySem.Spec PyProof.Rows L2 Evl Lw
section
variable {P : Program} {w : World} {K : PySem.W.Frag} {mg : Str → Option Value} {base : Heap}
theorem c_law_draw (T : Txt K mg) : Cl P w K mg base CX0 1 "_law_draw" s_law_draw ["_law_pool_here", "_law_many"] spDraw := by
  refine Cl.pool (cl_of (sp := spDraw1) (k := 0) T.d_law_draw sc_law_draw (fun vs H Q E h => ?_) (fun f cdv A outer s H vs Q E hr h => ?_)) spDraw_of
  · obtain ⟨p, m, a, b, c, rfl, _⟩ := h
    rfl
  · obtain ⟨p, m, a, b, c, rfl, hp, h0, h1, q⟩ := h
    have nd := sc_law_draw.nd
    refine ⟨_, (pss_cons (ps_asg (pe_op op_add (pe_ix ix_seq (pv 0) pe_int (fun _ _ => rfl)) pe_int) (pg_sub (pv 0) pe_int set_list))
      (pss_cons (ps_set (i := 2) nd rfl (Or.inl rfl) (pe_ix ix_seq (pv 0) pe_int (fun _ _ => rfl)))
      (pss_cons (ps_asg (pe_op op_mod (pe_op op_add (pe_op op_add (pe_op op_mul (pv 2) (pe_op op_add (pe_op op_mod (pv 2) pe_int) pe_int)) (pe_op op_mul pe_int (pe_ix ix_seq (pv 0) pe_int (fun _ _ => rfl)))) pe_int) pe_int) (pg_sub (pv 0) pe_int set_list))
      (pss_cons (ps_if (pt_cmpR op_gt (pe_ix ix_seq (pv 0) pe_int (fun _ _ => rfl)) pe_int (nomark _)) (pss_cons (ps_asg (pe_callB (call_divmodW) (by rfl) T.b_divmod bt_divmod (pa_cons (pe_ix ix_seq (pv 0) pe_int (fun _ _ => rfl)) (pa_cons (pv 1) pa_nil))) (pg_tup rfl (pgs_cons (pg_sub (pv 0) pe_int set_list) (pgs_cons (pg_name (i := 3) nd rfl (Or.inl rfl)) pgs_nil))))
      (pss_one (ps_ret (pv 3)))) pss_nil)
      (pss_one (ps_ret (pe_op op_mod (pe_op op_fdiv (pe_ix ix_seq (pv 0) pe_int (fun _ _ => rfl)) pe_int) (pv 1)))))))), ?_⟩
    repeat fail "st"
    refine ifD (fun hb => ?_) (fun hb => ?_)
    · repeat fail "st"
      refine ⟨cdivp h0 h1, fun t ht => ?_⟩
      have np : p ≠ t := ne_of_none upd_same ht
      repeat fail "st"
      exact q _ _ _ _ _ (But.mut (But.new (But.mut (But.mut But.refl)) ht)) upd_same (Int.emod_nonneg _ (by omega)) (Int.emod_lt_of_pos _ h0)
    · repeat fail "st"
      exact q _ _ _ _ _ (But.mut (But.mut But.refl)) upd_same (Int.emod_nonneg _ (by omega)) (Int.emod_lt_of_pos _ h0)
theorem c_law_pool (T : Txt K mg) : Cl P w K mg base CX0 1 "_law_pool" s_law_pool ["_law_cell_here"] spPool := by
  refine Cl.newpool (cl_of (sp := spPool1) (k := 0) T.d_law_pool sc_law_pool (fun vs H Q E h => ?_) (fun f cdv A outer s H vs Q E hr h => ?_)) spPool_of
  · obtain ⟨i, rfl, _⟩ := h
    rfl
  · obtain ⟨i, rfl, q⟩ := h
    have nd := sc_law_pool.nd
    refine ⟨_, (pss_cons (ps_set (i := 1) nd rfl (Or.inl rfl) (pe_ifExp (PW.pt (pw_or (pt_cmpR op_lt (pv 0) pe_int (nomark _)) (pw_or1 (pt_cmpR op_ge (pv 0) (pe_op op_pow pe_int pe_int) (nomark _))))) (pe_callB (call_abs) (by rfl) T.b_abs bt_abs (pa_cons (pv 0) pa_nil)) pe_int))
      (pss_one (ps_ret (pe_lst (pa_cons (pe_op op_mod (pv 0) pe_int) (pa_cons (pv 1) (pa_cons pe_int pa_nil))))))), ?_⟩
    repeat fail "st"
    refine ifD (fun hb => ?_) (fun hb => ?_)
    · repeat fail "st"
      refine iteT (B := True) ?_
      repeat fail "st"
      exact fun t ht => q t _ _ _ _ ht upd_same (Ex.new ht)
    · repeat fail "st"
      refine ifD (fun hb => ?_) (fun hb => ?_)
      · repeat fail "st"

        exact fun t ht => q t _ _ _ _ ht upd_same (Ex.new ht)
      · repeat fail "st"
        exact fun t ht => q t _ _ _ _ ht upd_same (Ex.new ht)
theorem c_law_cell (T : Txt K mg) : Cl P w K mg base CX0 1 "_law_cell" s_law_cell ["_law_script", "_law_k"] (Lw.spCell K) := by
  refine cl_of (k := 0) T.d_law_cell sc_law_cell (fun vs H Q E h => ?_) (fun f cdv A outer s H vs Q E hr h => ?_)
  · obtain ⟨a, ns, i, rfl, _⟩ := h
    rfl
  · obtain ⟨a, ns, i, rfl, hS, hl, h0, h1, q⟩ := h
    have nd := sc_law_cell.nd
    refine ⟨_, (pss_cons (ps_if (pt_cmpR op_lt (pv 1) (pe_callB (call_len) (by rfl) T.b_len bt_len (pa_cons (pv 0) pa_nil)) (nomark _)) (pss_one (ps_ret (pe_ix ix_seq (pv 0) (pv 1) (fun _ _ => rfl)))) pss_nil)
      (pss_cons (ps_set (i := 2) nd rfl (Or.inl rfl) (pe_op op_mod (pe_op op_mul pe_int (pe_op op_add (pe_op op_add (pe_op op_mul (pv 1) (pv 1)) (pe_op op_mul pe_int (pv 1))) pe_int)) pe_int))
      (pss_cons (ps_for PassesOwn.never rfl (pi_list (pe_slice sl_list (pv 0) po_none (po_some pe_int))) (pg_name (i := 3) nd rfl (Or.inl rfl)) (pss_one (ps_set (i := 2) nd rfl (Or.inl rfl) (pe_op op_mod (pe_op op_add (pe_op op_mul (pv 2) pe_int) (pv 3)) pe_int))))
      (pss_one (ps_ret (pv 2)))))), ?_⟩
    repeat fail "st"
    refine ifD (fun hb => ?_) (fun hb => ?_)
    · rw [List.length_map] at hb
      obtain ⟨j, rfl⟩ := Int.eq_ofNat_of_zero_le h0
      have hj : j < ns.length := by omega
      have ga : atI (ns.map V.int) (j : Int) = some (.int ns[j]) := atI_nat (by rw [List.getElem?_map, List.getElem?_eq_getElem hj]; rfl)
      repeat fail "st"
      exact q _ _ (Ex.refl H)
    · repeat fail "st"
      intro c nc
      refine ⟨_, rfl, ⟨_, SqL.of upd_same⟩, ?_⟩
      refine for_list (xs := cutV (ns.map V.int) none (some 3)) (fun _ σ H' => ∃ (z : Int) (y : Option V), σ = [some (.ref a), some (.int i), some (.int z), y] ∧ H' = upd H c (.lst (cutV (ns.map V.int) none (some 3)))) ⟨_, _, rfl, rfl⟩ ?_ ?_ ?_
      · rintro _ _ _ _ ⟨z, y, rfl, rfl⟩
        exact SqL.of upd_same
      · rintro _ x _ _ hx ⟨z, y, rfl, rfl⟩
        obtain ⟨n, rfl⟩ := cut_int hx
        repeat fail "st"
        rfl
      · rintro _ _ ⟨z, y, rfl, rfl⟩
        repeat fail "st"
        exact q _ _ (Ex.new nc)
end

end K14
namespace K14
open PySem PySem.Spec PyProof.Rows L2 Evl Lw
section
variable {P : Program} {w : World} {K : PySem.W.Frag} {mg : Str → Option Value} {base : Heap}
def spBox : Sp := fun vs H Q _ => ∃ p, vs = [.ref p] ∧ Pool H p ∧ ∀ t b H', Ex H H' → BoxAt H' t b → SmallBox b → Q (.ref t) H'
theorem c_law_box (T : Txt K mg) : Cl P w K mg base CX0 2 "_law_box" s_law_box ["_law_pool_here"] spBox := by
  refine cl_of (k := 1) T.d_law_box sc_law_box (fun vs H Q E h => ?_) (fun f cdv A outer s H vs Q E hr h => ?_)
  · obtain ⟨p, rfl, _⟩ := h
    rfl
  · obtain ⟨p, rfl, hp, q⟩ := h
    have nd := sc_law_box.nd
    refine ⟨_, (pss_one (ps_ret (pe_tup (pa_cons (pe_op op_sub (Lw.pe_cl (c_law_draw T) b_law_draw hr (by decide) (by rfl) pass0 (pa_cons (pv 0) (pa_cons pe_int pa_nil))) pe_int) (pa_cons (pe_op op_sub (Lw.pe_cl (c_law_draw T) b_law_draw hr (by decide) (by rfl) pass0 (pa_cons (pv 0) (pa_cons pe_int pa_nil))) pe_int) (pa_cons (Lw.pe_cl (c_law_draw T) b_law_draw hr (by decide) (by rfl) pass0 (pa_cons (pv 0) (pa_cons pe_int pa_nil))) (pa_cons (Lw.pe_cl (c_law_draw T) b_law_draw hr (by decide) (by rfl) pass0 (pa_cons (pv 0) (pa_cons pe_int pa_nil))) pa_nil))))))), ?_⟩
    repeat fail "st"
    intro d1 H1 e1 d10 d11
    repeat fail "st"
    intro d2 H2 e2 d20 d21
    repeat fail "st"
    intro d3 H3 e3 d30 d31
    repeat fail "st"
    intro d4 H4 e4 d40 d41
    repeat fail "st"
    intro t n_t
    generalize hh : upd _ t _ = H_t
    have e_t := newEx hh n_t
    have h_t := newAt hh
    clear hh
    exact q t (d1 - 4, d2 - 4, d3, d4) _ (e1.trans (e2.trans (e3.trans (e4.trans e_t)))) h_t ⟨⟨by show _ ≤ d1 - 4; omega, by show d1 - 4 ≤ _; omega⟩, ⟨by show _ ≤ d2 - 4; omega, by show d2 - 4 ≤ _; omega⟩, ⟨d30, by show d3 ≤ _; omega⟩, d40, by show d4 ≤ _; omega⟩
end

end K14
namespace K14
open PySem PySem.Spec PyProof.Rows L2 Evl Lw
section
variable {P : Program} {w : World} {K : PySem.W.Frag} {mg : Str → Option Value} {base : Heap}
/-- a tuple of stretches -/
def SpT (K : PySem.W.Frag) (H : Hp) (t : Addr) (ss : List Span) : Prop := ∃ qs, SqT K H t (qs.map V.ref) ∧ Rows H qs ss
theorem ne_nil {H : Hp} {a l : Addr} {qs : List Addr} {ps : List (Int × Int)} {Q : VK} (hl : SqL K H a (qs.map V.ref)) (r : Rows H qs ps) (h : H l = some (.lst [])) (q : Q (.bl (!decide (ps = []))) H) : rNeD K (.ref a) (.ref l) H Q := by
  refine ⟨_, _, .lst hl (dp_pts r), .lst (SqL.of h) .nil, shaped_pts ps, by decide +kernel, ?_⟩
  have e : PyData.eqv (.list (ps.map datP)) (.list []) = decide (ps = []) := by
    cases ps with
    | nil => rfl
    | cons p ps => simp [PyData.eqv, PyData.eqvAll]
  rw [e]
  exact q
theorem ixL_last {H : Hp} {p : Addr} {xs : List V} {v : V} {Q : VK} (h : H p = some (.lst (xs ++ [v]))) (q : Q v H) : rIx K (.ref p) (.int (-1)) H Q :=
  .inl ⟨p, xs ++ [v], -1, v, rfl, rfl, SqL.of h, atI_last xs v, q⟩
theorem setL_last {H : Hp} {p : Addr} {xs : List V} {v u : V} {Q : Hp → Prop} (h : H p = some (.lst (xs ++ [v]))) (q : Q (upd H p (.lst (xs ++ [u])))) : rSetL (.ref p) (.int (-1)) u H Q := by
  refine ⟨p, _, -1, xs.length, rfl, rfl, h, ?_, ?_⟩
  · unfold ixN
    rw [if_neg (by decide), List.length_append, if_pos (by show -((xs.length + 1 : Nat) : Int) ≤ -1; omega)]
    exact congrArg some (by show ((-1 : Int) + ((xs.length + 1 : Nat) : Int)).toNat = xs.length; omega)
  · rw [List.set_append_right _ _ (Nat.le_refl _), Nat.sub_self]
    exact q
theorem rows_unsnoc {H : Hp} : ∀ {gs : List (Int × Int)} {qs : List Addr} {t : Int × Int}, Rows H qs (gs ++ [t]) → ∃ ds d, qs = ds ++ [d] ∧ Rows H ds gs ∧ RowAt H d t
  | [], _, _, .cons h .nil => ⟨[], _, rfl, .nil, h⟩
  | _ :: _, _, _, .cons h r => by
    obtain ⟨ds, d, rfl, a, b⟩ := rows_unsnoc r
    exact ⟨_ :: ds, d, rfl, .cons h a, b⟩
theorem rows_snoc {H : Hp} {q : Addr} {p : Int × Int} (hq : RowAt H q p) : ∀ {qs : List Addr} {ps : List (Int × Int)}, Rows H qs ps → Rows H (qs ++ [q]) (ps ++ [p])
  | _, _, .nil => .cons hq .nil
  | _, _, .cons h t => .cons h (rows_snoc hq t)
theorem rows_but {H H' : Hp} {a : Addr} {xs : List V} (e : But a H H') (ha : H a = some (.lst xs)) : ∀ {qs : List Addr} {ps : List (Int × Int)}, Rows H qs ps → Rows H' qs ps
  | _, _, .nil => .nil
  | _, _, .cons h t => .cons (e _ _ (fun z => by
      have h' := z ▸ h
      rw [show H a = _ from h'] at ha
      cases ha) h) (rows_but e ha t)
def spJoin (K : PySem.W.Frag) : Sp := fun vs H Q _ => ∃ l js fs, SqL K H l (js.map V.ref) ∧ vs = [.ref l] ∧ Rows H js fs ∧ (∀ p ∈ fs, p.1 < p.2) ∧ fs.length ≤ 5000 ∧
  ∀ t ss H', Ex H H' → SpT K H' t ss → SpanC ss → (∀ x, InS ss x ↔ ∃ p ∈ fs, p.1 ≤ x ∧ x < p.2) → ss.length ≤ fs.length → Q (.ref t) H'
theorem c_joined_spans (T : Txt K mg) : Cl P w K mg base CX0 1 "joined_spans" s_joined_spans ["spans"] (spJoin K) := by
  refine cl_of (k := 0) T.d_joined_spans sc_joined_spans (fun vs H Q E h => ?_) (fun f cdv A outer s H vs Q E hr h => ?_)
  · obtain ⟨l, js, fs, _, rfl, _⟩ := h
    rfl
  · obtain ⟨l, js, fs, hl, rfl, rj, pos, len, q⟩ := h
    have nd := sc_joined_spans.nd
    refine ⟨_, (pss_cons (ps_set (i := 1) nd rfl (Or.inl rfl) (pe_lst pa_nil))
      (pss_cons (ps_for PassesOwn.never rfl (pi_list (pe_callB (cr_sortedPO) (by rfl) T.b_sorted bt_sorted (pa_cons (pv 0) pa_nil))) (pg_tup rfl (pgs_cons (pg_name (i := 2) nd rfl (Or.inl rfl)) (pgs_cons (pg_name (i := 3) nd rfl (Or.inl rfl)) pgs_nil))) (pss_one (ps_if (PW.pt (pw_and (pt_cmpR (op_neD hr.units) (pv 1) (pe_lst pa_nil) (nomark _)) (pw_and1 (pt_cmpR op_le (pv 2) (pe_ix ix_seq (pe_ix ix_seq (pv 1) (pe_un un_neg pe_int) (fun _ _ => rfl)) pe_int (fun _ _ => rfl)) (nomark _))))) (pss_one (ps_asg (pe_tup (pa_cons (pe_ix ix_seq (pe_ix ix_seq (pv 1) (pe_un un_neg pe_int) (fun _ _ => rfl)) pe_int (fun _ _ => rfl)) (pa_cons (pe_callB (call_max2 rfl) (by rfl) T.b_max bt_max (pa_cons (pe_ix ix_seq (pe_ix ix_seq (pv 1) (pe_un un_neg pe_int) (fun _ _ => rfl)) pe_int (fun _ _ => rfl)) (pa_cons (pv 3) pa_nil))) pa_nil))) (pg_sub (pv 1) (pe_un un_neg pe_int) set_list))) (pss_one (ps_expr (pe_bm PySem.F.plainAttrs_list PySem.F.slot_list_append PySem.F.type_list_append mt_append (pv 1) (pa_cons (pe_tup (pa_cons (pv 2) (pa_cons (pv 3) pa_nil))) pa_nil)))))))
      (pss_one (ps_ret (pe_callTy (call_tuple_of) (by rfl) T.b_tuple bt_tuple (pa_cons (pv 1) pa_nil)))))), ?_⟩
    repeat fail "st"
    intro fd n_fd
    generalize hh : upd _ fd _ = H_fd
    have e_fd := newEx hh n_fd
    have h_fd := newAt hh
    clear hh
    repeat fail "st"
    have hl2 := ex_l e_fd hl
    dsimp (config := { proj := false }) only [tNil]
    refine srt_rows (K := K) hl2 (rj.up e_fd) fun sp ks rs nsp rk pm srt => ?_
    generalize hh : upd H_fd sp _ = H4
    have e4 := newEx hh nsp
    have h4 := newAt hh
    clear hh
    have hfd4 := e4 _ _ h_fd
    have nsf : sp ≠ fd := fun z => by rw [z, h_fd] at nsp; cases nsp
    have rk4 := rk.up e4
    have lk : ks.length = rs.length := Paired.length rk
    have lrs : rs.length ≤ 5000 := by rw [pm.length_eq]; exact len
    repeat fail "st"
    refine for_list (xs := ks.map V.ref) (fun i σ H' => ∃ y2 y3 qs ss, σ = [some (.ref l), some (.ref fd), y2, y3] ∧ But fd H4 H' ∧ Ex H H' ∧ H' fd = some (.lst (qs.map V.ref)) ∧ Rows H' qs ss ∧ SpanC ss ∧ (∀ x, InS ss x ↔ ∃ p ∈ rs.take i, p.1 ≤ x ∧ x < p.2) ∧ (∀ s ∈ ss, ∀ j p, i ≤ j → rs[j]? = some p → s.1 ≤ p.1) ∧ ss.length ≤ i ∧ i ≤ rs.length) ?_ ?_ ?_ ?_
    · exact ⟨_, _, [], [], rfl, But.refl, e_fd.trans e4, hfd4, .nil, canon_nil, (fun x => ⟨(fun ⟨s, m, _⟩ => by cases m), (fun ⟨p, m, _⟩ => by rw [List.take_zero] at m; cases m)⟩), (fun s m => by cases m), Nat.zero_le _, Nat.zero_le _⟩
    · rintro i _ H' _ ⟨y2, y3, qs, ss, rfl, bt, _⟩
      exact SqL.of (bt _ _ nsf h4)
    · rintro i x _ H' hx ⟨y2, y3, qs, ss, rfl, bt, eD, hfd, rq, sc, mem, low, ls, il⟩
      obtain ⟨y, p, rfl, _, hp, rp⟩ := rows_at' rk4 hx
      have ip := (List.getElem?_eq_some_iff.mp hp).1
      have rp0 : H4 y = some (.tup [.int p.1, .int p.2]) := rp
      have rp' : H' y = some (.tup [.int p.1, .int p.2]) := bt _ _ (fun z => by rw [z, hfd4] at rp0; cases rp0) rp0
      have pp : p.1 < p.2 := pos p (pm.mem_iff.mp (List.mem_of_getElem? hp))
      have nxt : ∀ j q, i + 1 ≤ j → rs[j]? = some q → p.1 ≤ q.1 := fun j q hj hq => by
        obtain ⟨lj, ej⟩ := List.getElem?_eq_some_iff.mp hq
        obtain ⟨li, ei⟩ := List.getElem?_eq_some_iff.mp hp
        have h := List.pairwise_iff_getElem.mp srt i j li lj (by omega)
        rw [ei, ej] at h
        have := SrtO.lexB_no.mp h
        omega
      have tk : ∀ x, (∃ q ∈ rs.take (i + 1), q.1 ≤ x ∧ x < q.2) ↔ (∃ q ∈ rs.take i, q.1 ≤ x ∧ x < q.2) ∨ (p.1 ≤ x ∧ x < p.2) := fun x => by
        rw [List.take_add_one, hp]
        constructor
        · rintro ⟨q, m, h⟩
          rcases List.mem_append.mp m with m | m
          · exact .inl ⟨q, m, h⟩
          · obtain rfl : q = p := by simpa using m
            exact .inr h
        · rintro (⟨q, m, h⟩ | h)
          · exact ⟨q, List.mem_append_left _ m, h⟩
          · exact ⟨p, List.mem_append_right _ (by simp), h⟩
      repeat fail "st"
      intro en n_en
      generalize hh : upd _ en _ = H_en
      have e_en := newEx hh n_en
      have h_en := newAt hh
      clear hh
      refine ne_nil (SqL.of (e_en _ _ hfd)) (rq.up e_en) h_en ?_
      have bt := bt.up e_en; have eD := eD.trans e_en; have hfd := e_en _ _ hfd; have rq := rq.up e_en; have rp' := e_en _ _ rp'
      clear e_en h_en
      repeat fail "st"
      refine ifNt (fun c => ?_) (fun c => ?_)
      · obtain ⟨gs, t, es⟩ := (List.eq_nil_or_concat ss).resolve_left (of_decide_eq_false c)
        rw [List.concat_eq_append] at es
        subst es
        obtain ⟨ds, d, rfl, rg, rt⟩ := rows_unsnoc rq
        have ht : H_en d = some (.tup [.int t.1, .int t.2]) := rt
        have hfd1 : H_en fd = some (.lst (ds.map V.ref ++ [.ref d])) := by rw [hfd, List.map_append]; rfl
        have lt := sc.1 (asRun t) (List.mem_map.mpr ⟨t, List.mem_append_right _ (List.mem_singleton.mpr rfl), rfl⟩)
        have lo := low t (List.mem_append_right _ (List.mem_singleton.mpr rfl)) i p (Nat.le_refl _) hp
        have il1 : ∀ {Q : VK}, Q (.ref d) H_en → rIx K (.ref fd) (.int (-1)) H_en Q := fun q => ixL_last (K := K) hfd1 q
        repeat fail "st"
        refine il1 ?_
        repeat fail "st"
        refine ifD (fun c2 => ?_) (fun c2 => ?_)
        · repeat fail "st"
          refine il1 ?_
          repeat fail "st"
          refine il1 ?_
          repeat fail "st"
          intro nt n_nt
          generalize hh : upd _ nt _ = H_nt
          have e_nt := newEx hh n_nt
          have h_nt := newAt hh
          clear hh
          repeat fail "st"
          rw [mx_eq] at h_nt
          have hfd2 := e_nt _ _ hfd1
          have ne : nt ≠ fd := fun z => by rw [z, hfd] at n_nt; cases n_nt
          have c3 : p.1 ≤ t.2 := c2
          have se := span_ext (a := p.1) (b := max t.2 p.2) sc lo c3 (by omega)
          refine setL_last hfd2 ?_
          refine ⟨_, _, ds ++ [nt], gs ++ [(t.1, max t.2 p.2)], rfl, But.mut (bt.up e_nt), Ex.mut (eD.trans e_nt) n_fd, by rw [upd_same, List.map_append]; rfl, ?_, se.1, fun x => ?_, fun s m j q hj hq => ?_, ?_, ip⟩
          · exact rows_snoc (by show upd H_nt fd _ nt = _; rw [upd_ne ne]; exact h_nt) (rows_but (But.mut But.refl) hfd2 (rg.up e_nt))
          · rw [se.2, tk, mem]
            constructor
            · rintro (h | ⟨h, h'⟩)
              · exact .inl h
              · by_cases z : x < p.2
                · exact .inr ⟨h, z⟩
                · exact .inl ((mem x).mp ⟨t, List.mem_append_right _ (List.mem_singleton.mpr rfl), by omega, by omega⟩)
            · rintro (h | ⟨h, h'⟩)
              · exact .inl h
              · exact .inr ⟨h, by omega⟩
          · rcases List.mem_append.mp m with m | m
            · exact low s (List.mem_append_left _ m) j q (by omega) hq
            · rw [List.mem_singleton.mp m]
              exact low t (List.mem_append_right _ (List.mem_singleton.mpr rfl)) j q (by omega) hq
          · rw [List.length_append] at ls ⊢
            exact Nat.le_succ_of_le ls
        · repeat fail "st"
          refine ⟨.inl ⟨rfl, _, SqL.of hfd⟩, ?_⟩
          repeat fail "st"
          intro nt n_nt
          generalize hh : upd _ nt _ = H_nt
          have e_nt := newEx hh n_nt
          have h_nt := newAt hh
          clear hh
          have hfd2 := e_nt _ _ hfd
          have lq := Paired.length rq
          have ne : nt ≠ fd := fun z => by rw [z, hfd] at n_nt; cases n_nt
          have sa := span_add (s := p) sc pp (by
            have n2 : ¬ p.1 ≤ t.2 := c2
            omega)
          refine ⟨fd, _, _, rfl, rfl, hfd2, Nat.lt_of_lt_of_le (show _ < 6000 by rw [List.length_map]; omega) (by decide), ?_⟩
          refine ⟨_, _, (ds ++ [d]) ++ [nt], gs ++ [t] ++ [p], rfl, But.mut (bt.up e_nt), Ex.mut (eD.trans e_nt) n_fd, by rw [upd_same, List.map_append (l₁ := ds ++ [d])]; rfl, ?_, sa.1, fun x => ?_, fun s m j q hj hq => ?_, ?_, ip⟩
          · exact rows_snoc (by show upd H_nt fd _ nt = _; rw [upd_ne ne]; exact h_nt) (rows_but (But.mut But.refl) hfd2 (rq.up e_nt))
          · rw [sa.2, tk, mem]
          · rcases List.mem_append.mp m with m | m
            · exact low s m j q (by omega) hq
            · rw [List.mem_singleton.mp m]
              exact nxt j q hj hq
          · rw [List.length_append]
            exact Nat.succ_le_succ ls
      · obtain rfl := of_decide_eq_true c
        repeat fail "st"
        refine ⟨.inl ⟨rfl, _, SqL.of hfd⟩, ?_⟩
        repeat fail "st"
        intro nt n_nt
        generalize hh : upd _ nt _ = H_nt
        have e_nt := newEx hh n_nt
        have h_nt := newAt hh
        clear hh
        have hfd2 := e_nt _ _ hfd
        cases rq
        have ne : nt ≠ fd := fun z => by rw [z, hfd] at n_nt; cases n_nt
        refine ⟨fd, _, _, rfl, rfl, hfd2, Nat.lt_of_lt_of_le (show 0 < 6000 by decide) (by decide), ?_⟩
        refine ⟨_, _, [nt], [p], rfl, But.mut (bt.up e_nt), Ex.mut (eD.trans e_nt) n_fd, upd_same, ?_, (span_one pp).1, fun x => ?_, fun s m j q hj hq => ?_, Nat.succ_le_succ (Nat.zero_le _), ip⟩
        · exact .cons (by show upd H_nt fd _ nt = _; rw [upd_ne ne]; exact h_nt) .nil
        · refine ((span_one pp).2 x).trans ⟨fun h => (tk x).mpr (.inr h), fun h => ((tk x).mp h).elim (fun z => ?_) id⟩
          obtain ⟨s, m, _⟩ := (mem x).mpr z
          cases m
        · rw [List.mem_singleton.mp m]
          exact nxt j q hj hq
    · rintro _ H' ⟨y2, y3, qs, ss, rfl, bt, eD, hfd, rq, sc, mem, low, ls, il⟩
      rw [List.length_map, lk, List.take_length] at mem
      rw [List.length_map, lk] at ls
      repeat fail "st"
      refine ⟨fd, _, rfl, .inl ⟨SqL.of hfd, fun t nt => ?_⟩⟩
      refine q t ss _ (eD.trans (Ex.new nt)) ⟨qs, SqT.of upd_same, rq.up (Ex.new nt)⟩ sc (fun x => (mem x).trans ?_) (by rw [← pm.length_eq]; exact ls)
      exact ⟨fun ⟨z, m, h⟩ => ⟨z, pm.mem_iff.mp m, h⟩, fun ⟨z, m, h⟩ => ⟨z, pm.mem_iff.mpr m, h⟩⟩
end

end K14
namespace K14
open PySem PySem.Spec PyProof.Rows L2 Evl Lw
section
variable {P : Program} {w : World} {K : PySem.W.Frag} {mg : Str → Option Value} {base : Heap}
/-- a band in the heap -/
def BdAt (K : PySem.W.Frag) (H : Hp) (a : Addr) (b : Band) : Prop := ∃ t, H a = some (.tup [.int b.1, .int b.2.1, .ref t]) ∧ SpT K H t b.2.2
abbrev Bds (K : PySem.W.Frag) (H : Hp) : List Addr → List Band → Prop := Paired (BdAt K H)
theorem SpT.up {H H' : Hp} {t : Addr} {ss : List Span} (e : Ex H H') (h : SpT K H t ss) : SpT K H' t ss := let ⟨qs, a, b⟩ := h; ⟨qs, ex_t e a, b.up e⟩
theorem BdAt.up {H H' : Hp} {a : Addr} {b : Band} (e : Ex H H') (h : BdAt K H a b) : BdAt K H' a b := let ⟨t, x, y⟩ := h; ⟨t, e _ _ x, y.up e⟩
theorem Bds.up {H H' : Hp} (e : Ex H H') : ∀ {qs : List Addr} {bs : List Band}, Bds K H qs bs → Bds K H' qs bs
  | _, _, .nil => .nil
  | _, _, .cons h t => .cons (h.up e) (Bds.up e t)
theorem vals_of_rows {f : Int × Int → V} {fs : List (Int × Int)} {ys : List V} (hl : ys.length = fs.length) (h : ∀ (i : Nat) y, ys[i]? = some y → ∃ p, fs[i]? = some p ∧ y = f p) : ys = fs.map f := by
  refine List.ext_getElem? fun i => ?_
  rw [List.getElem?_map]
  by_cases c : i < ys.length
  · obtain ⟨p, e1, e2⟩ := h i ys[i] (List.getElem?_eq_getElem c)
    rw [List.getElem?_eq_getElem c, e1, e2]
    rfl
  · rw [List.getElem?_eq_none (by omega), List.getElem?_eq_none (by omega)]
    rfl
def spCovers (K : PySem.W.Frag) : Sp := fun vs H Q _ => ∃ t ss x, SpT K H t ss ∧ vs = [.ref t, .int x] ∧ ss.length ≤ 5000 ∧ ∀ b H', Ex H H' → (b = true ↔ InS ss x) → Q (.bl b) H'
theorem c_covers (T : Txt K mg) : Cl P w K mg base CX0 1 "covers" s_covers ["spans", "place"] (spCovers K) := by
  refine cl_of (k := 0) T.d_covers sc_covers (fun vs H Q E h => ?_) (fun f cdv A outer s H vs Q E hr h => ?_)
  · obtain ⟨t, ss, x, _, rfl, _⟩ := h
    rfl
  · obtain ⟨t, ss, x, ⟨qs, ht, rq⟩, rfl, len, q⟩ := h
    have nd := sc_covers.nd
    have lq := Paired.length rq
    refine ⟨_, (pss_one (ps_ret (pe_callB (cr_any rfl) (by rfl) T.b_any bt_any (pa_cons (pe_lc (own := [("left", 2), ("right", 3)]) (g := gTup K 2 (gCons (gName 2) (gCons (gName 3) (gNil)))) (tt := tYes) rfl nd (pi_tup (pv 0)) (L2.blkOk_by (N := N_covers) (sc := defScope s_covers) (by decide +kernel)) (fun _ _ _ _ _ => (pg_tup rfl (pgs_cons (pg_name (i := 2) nd rfl (Or.inl rfl)) (pgs_cons (pg_name (i := 3) nd rfl (Or.inl rfl)) pgs_nil)))) (fun _ _ _ _ _ => pts_nil) (fun _ _ _ _ _ => (pe_chain op_le op_lt (pv 2) (pv 1) (pv 3)))) pa_nil)))), ?_⟩
    repeat fail "st"
    intro D hD
    refine lcT (All fun i v _ => ∃ s, ss[i]? = some s ∧ v = V.bl (decide (s.1 ≤ x ∧ x < s.2))) (all_mono fun _ _ _ _ _ h => h) hD ht (by rw [List.length_map]; omega) (fun i v hi H1 e Q1 Q2 q1 q2 => ?_) (fun H1 os e hl1 hD1 hp1 => ?_)
    · obtain ⟨y, s, rfl, _, hs, rp⟩ := rows_at' (rq.up e) hi
      repeat fail "st"
      refine ifD (fun c => ?_) (fun c => ?_)
      · repeat fail "st"
        refine q1 _ _ (Ex.refl _) ⟨_, rfl, s, hs, ?_⟩
        exact congrArg V.bl (by rw [Bool.eq_iff_iff]; simp [show s.1 ≤ x from c])
      · refine q1 _ _ (Ex.refl _) ⟨_, rfl, s, hs, ?_⟩
        exact congrArg V.bl (decide_eq_false fun z => c z.1).symm
    · obtain ⟨ys, ey, ly, hy⟩ := All.end hp1
      rw [ey, vals_of_rows (f := fun s : Span => V.bl (decide (s.1 ≤ x ∧ x < s.2))) (fs := ss) (by rw [ly, hl1, List.length_map, lq]) hy] at hD1
      refine ⟨D, ss.map fun s => decide (s.1 ≤ x ∧ x < s.2), rfl, SqL.of (by rw [List.map_map]; exact hD1), ?_⟩
      refine q _ _ e ?_
      rw [List.any_map, List.any_eq_true]
      constructor
      · rintro ⟨s, m, h⟩
        exact ⟨s, m, of_decide_eq_true h⟩
      · rintro ⟨s, m, h⟩
        exact ⟨s, m, decide_eq_true h⟩
theorem eqv_pts : ∀ {ps qs : List (Int × Int)}, PyData.eqvAll (ps.map datP) (qs.map datP) = decide (ps = qs)
  | [], [] => by simp [PyData.eqvAll]
  | [], q :: qs => by simp [PyData.eqvAll]
  | p :: ps, [] => by simp [PyData.eqvAll]
  | p :: ps, q :: qs => by
    rw [List.map_cons, List.map_cons, PyData.eqvAll, eqv_pt, eqv_pts (ps := ps) (qs := qs), Bool.eq_iff_iff]
    simp
theorem shaped_ptt (ps : List (Int × Int)) : SeqAt.shaped (.tuple (ps.map datP)) = true := by
  unfold SeqAt.shaped
  rw [PyData.canLay0, PyData.depth, lay_pts, decide_eq_true (by have := deep_pts ps; omega)]
  rfl
/-- two tuples of stretches -/
theorem eq_sp {H : Hp} {a b : Addr} {ss ts : List Span} {Q : VK} (ha : SpT K H a ss) (hb : SpT K H b ts) (q : Q (.bl (decide (ss = ts))) H) : rEqD K (.ref a) (.ref b) H Q := by
  obtain ⟨qs, h1, r1⟩ := ha
  obtain ⟨ks, h2, r2⟩ := hb
  refine ⟨_, _, .tup h1 (dp_pts r1), .tup h2 (dp_pts r2), shaped_ptt ss, shaped_ptt ts, ?_⟩
  rw [PyData.eqv, eqv_pts]
  exact q
theorem eq_sp0 {H : Hp} {a b : Addr} {ss : List Span} {Q : VK} (ha : SpT K H a ss) (hb : H b = some (.tup [])) (q : Q (.bl (decide (ss = []))) H) : rEqD K (.ref a) (.ref b) H Q :=
  eq_sp ha ⟨[], SqT.of hb, .nil⟩ q
end

end K14
namespace K14
open PySem PySem.Spec PyProof.Rows L2 Evl Lw
section
variable {P : Program} {w : World} {K : PySem.W.Frag} {mg : Str → Option Value} {base : Heap}
def BdT (K : PySem.W.Frag) (H : Hp) (t : Addr) (bs : List Band) : Prop := ∃ qs, SqT K H t (qs.map V.ref) ∧ Bds K H qs bs
theorem sqT_but {H H' : Hp} {a t : Addr} {xs ys : List V} (e : But a H H') (ha : H a = some (.lst xs)) (h : SqT K H t ys) : SqT K H' t ys := by
  rcases h with (h | ⟨o, h⟩) | h
  · exact .inl (.inl (e _ _ (fun z => by rw [z, ha] at h; cases h) h))
  · exact .inl (.inr ⟨o, e _ _ (fun z => by rw [z, ha] at h; cases h) h⟩)
  · exact .inr h
theorem spT_but {H H' : Hp} {a t : Addr} {xs : List V} {ss : List Span} (e : But a H H') (ha : H a = some (.lst xs)) (h : SpT K H t ss) : SpT K H' t ss := let ⟨qs, x, y⟩ := h; ⟨qs, sqT_but e ha x, rows_but e ha y⟩
theorem bd_but {H H' : Hp} {a y : Addr} {xs : List V} {b : Band} (e : But a H H') (ha : H a = some (.lst xs)) (h : BdAt K H y b) : BdAt K H' y b := let ⟨t, x, z⟩ := h; ⟨t, e _ _ (fun n => by rw [n, ha] at x; cases x) x, spT_but e ha z⟩
theorem bds_but {H H' : Hp} {a : Addr} {xs : List V} (e : But a H H') (ha : H a = some (.lst xs)) : ∀ {qs : List Addr} {bs : List Band}, Bds K H qs bs → Bds K H' qs bs
  | _, _, .nil => .nil
  | _, _, .cons h t => .cons (bd_but e ha h) (bds_but e ha t)
theorem bds_at {H : Hp} : ∀ {qs : List Addr} {bs : List Band} {i : Nat} {v : V}, Bds K H qs bs → (qs.map V.ref)[i]? = some v → ∃ y b, v = .ref y ∧ bs[i]? = some b ∧ BdAt K H y b
  | _, _, 0, _, .cons h _, e => ⟨_, _, (Option.some.inj e).symm, rfl, h⟩
  | _, _, i + 1, _, .cons _ t, e => bds_at (i := i) t e
theorem prd_unsnoc {α β : Type} {R : α → β → Prop} : ∀ {gs : List β} {qs : List α} {t : β}, Paired R qs (gs ++ [t]) → ∃ ds d, qs = ds ++ [d] ∧ Paired R ds gs ∧ R d t
  | [], qs, t, h => by
    cases h with
    | cons h r =>
      cases r
      exact ⟨[], _, rfl, .nil, h⟩
  | g :: gs, qs, t, h => by
    cases h with
    | cons h r =>
      obtain ⟨ds, d, e, a, b⟩ := prd_unsnoc r
      subst e
      exact ⟨_ :: ds, d, rfl, .cons h a, b⟩
theorem prd_snoc {α β : Type} {R : α → β → Prop} {q : α} {p : β} (hq : R q p) {qs : List α} {ps : List β} (h : Paired R qs ps) : Paired R (qs ++ [q]) (ps ++ [p]) := by
  induction h with
  | nil => exact .cons hq .nil
  | cons h t ih => exact .cons h ih
theorem bds_unsnoc {H : Hp} {gs : List Band} {qs : List Addr} {t : Band} (h : Bds K H qs (gs ++ [t])) : ∃ ds d, qs = ds ++ [d] ∧ Bds K H ds gs ∧ BdAt K H d t := prd_unsnoc h
theorem bds_snoc {H : Hp} {q : Addr} {p : Band} (hq : BdAt K H q p) {qs : List Addr} {ps : List Band} (h : Bds K H qs ps) : Bds K H (qs ++ [q]) (ps ++ [p]) := prd_snoc hq h
def datB (b : Band) : PyData := .tuple [.int b.1, .int b.2.1, .tuple (b.2.2.map datP)]
theorem dp_bds {H : Hp} {qs : List Addr} {bs : List Band} (r : Bds K H qs bs) : DpAll K H (qs.map V.ref) (bs.map datB) := by
  induction r with
  | nil => exact .nil
  | cons h t ih =>
    obtain ⟨_, h, _, s, r⟩ := h
    exact .cons (.tup (SqT.of h) (.cons (.int _) (.cons (.int _) (.cons (.tup s (dp_pts r)) .nil)))) ih
theorem lay_bds : ∀ bs : List Band, PyData.canLayAll0 (bs.map datB) = true ∧ PyData.depthAll (bs.map datB) ≤ 3
  | [] => by simp [PyData.canLayAll0, PyData.depthAll]
  | b :: bs => by
    obtain ⟨h1, h2⟩ := lay_bds bs
    have d := deep_pts b.2.2
    rw [List.map_cons, PyData.canLayAll0, PyData.depthAll, h1]
    refine ⟨by simp [datB, PyData.canLay0, PyData.canLayAll0, lay_pts], Nat.max_le.mpr ⟨?_, h2⟩⟩
    simp only [datB, PyData.depth, PyData.depthAll]
    omega
theorem shaped_bds (bs : List Band) : SeqAt.shaped (.list (bs.map datB)) = true := by
  unfold SeqAt.shaped
  rw [PyData.canLay0, PyData.depth, (lay_bds bs).1, decide_eq_true (by have := (lay_bds bs).2; omega)]
  rfl
theorem ne_nilB {H : Hp} {a l : Addr} {qs : List Addr} {bs : List Band} {Q : VK} (hl : SqL K H a (qs.map V.ref)) (r : Bds K H qs bs) (h : H l = some (.lst [])) (q : Q (.bl (!decide (bs = []))) H) : rNeD K (.ref a) (.ref l) H Q := by
  refine ⟨_, _, .lst hl (dp_bds r), .lst (SqL.of h) .nil, shaped_bds bs, by decide +kernel, ?_⟩
  have e : PyData.eqv (.list (bs.map datB)) (.list []) = decide (bs = []) := by
    cases bs with
    | nil => rfl
    | cons p ps => simp [PyData.eqv, PyData.eqvAll]
  rw [e]
  exact q
def spJB (K : PySem.W.Frag) : Sp := fun vs H Q _ => ∃ l js cs, SqL K H l (js.map V.ref) ∧ vs = [.ref l] ∧ Bds K H js cs ∧ (∀ b ∈ cs, b.1 ≤ b.2.1 ∧ SpanC b.2.2) ∧ cs.Pairwise (fun b c => b.2.1 ≤ c.1) ∧ cs.length ≤ 5000 ∧
  ∀ t bs H', Ex H H' → BdT K H' t bs → BandC bs → (∀ x y, PtB bs x y ↔ PtB cs x y) → bs.length ≤ cs.length → (∀ b ∈ bs, ∃ c ∈ cs, b.2.2 = c.2.2) → Q (.ref t) H'
set_option maxHeartbeats 8000000 in
theorem c_joined_bands (T : Txt K mg) : Cl P w K mg base CX0 1 "joined_bands" s_joined_bands ["bands"] (spJB K) := by
  refine cl_of (k := 0) T.d_joined_bands sc_joined_bands (fun vs H Q E h => ?_) (fun f cdv A outer s H vs Q E hr h => ?_)
  · obtain ⟨l, js, cs, _, rfl, _⟩ := h
    rfl
  · obtain ⟨l, js, cs, hl, rfl, rj, good, ord, len, q⟩ := h
    have nd := sc_joined_bands.nd
    refine ⟨_, (pss_cons (ps_set (i := 1) nd rfl (Or.inl rfl) (pe_lst pa_nil))
      (pss_cons (ps_for PassesOwn.never rfl (pi_list (pv 0)) (pg_tup rfl (pgs_cons (pg_name (i := 2) nd rfl (Or.inl rfl)) (pgs_cons (pg_name (i := 3) nd rfl (Or.inl rfl)) (pgs_cons (pg_name (i := 4) nd rfl (Or.inl rfl)) pgs_nil)))) (pss_cons (ps_if (PW.pt (pw_or (pt_cmpR (op_eqD hr.units) (pv 4) (pe_tup pa_nil) (nomark _)) (pw_or1 (pt_cmpR op_eq (pv 2) (pv 3) (nomark _))))) (pss_one ps_continue) pss_nil)
      (pss_one (ps_if (PW.pt (pw_and (pt_cmpR (op_neD hr.units) (pv 1) (pe_lst pa_nil) (nomark _)) (pw_and (pt_cmpR op_eq (pe_ix ix_seq (pe_ix ix_seq (pv 1) (pe_un un_neg pe_int) (fun _ _ => rfl)) pe_int (fun _ _ => rfl)) (pv 2) (nomark _)) (pw_and1 (pt_cmpR (op_eqD hr.units) (pe_ix ix_seq (pe_ix ix_seq (pv 1) (pe_un un_neg pe_int) (fun _ _ => rfl)) pe_int (fun _ _ => rfl)) (pv 4) (nomark _)))))) (pss_one (ps_asg (pe_tup (pa_cons (pe_ix ix_seq (pe_ix ix_seq (pv 1) (pe_un un_neg pe_int) (fun _ _ => rfl)) pe_int (fun _ _ => rfl)) (pa_cons (pv 3) (pa_cons (pv 4) pa_nil)))) (pg_sub (pv 1) (pe_un un_neg pe_int) set_list))) (pss_one (ps_expr (pe_bm PySem.F.plainAttrs_list PySem.F.slot_list_append PySem.F.type_list_append mt_append (pv 1) (pa_cons (pe_tup (pa_cons (pv 2) (pa_cons (pv 3) (pa_cons (pv 4) pa_nil)))) pa_nil))))))))
      (pss_one (ps_ret (pe_callTy (call_tuple_of) (by rfl) T.b_tuple bt_tuple (pa_cons (pv 1) pa_nil)))))), ?_⟩
    repeat fail "st"
    intro fd n_fd
    generalize hh : upd _ fd _ = H_fd
    have e_fd := newEx hh n_fd
    have h_fd := newAt hh
    clear hh
    have hl2 := ex_l e_fd hl
    have rj2 := rj.up e_fd
    have lj := Paired.length rj
    repeat fail "st"
    refine for_list (xs := js.map V.ref) (fun i σ H' => ∃ y2 y3 y4 qs bs, σ = [some (.ref l), some (.ref fd), y2, y3, y4] ∧ But fd H_fd H' ∧ Ex H H' ∧ H' fd = some (.lst (qs.map V.ref)) ∧ Bds K H' qs bs ∧ BandC bs ∧ (∀ x y, PtB bs x y ↔ PtB (cs.take i) x y) ∧ (∀ b ∈ bs, ∀ j c, i ≤ j → cs[j]? = some c → b.2.1 ≤ c.1) ∧ bs.length ≤ i ∧ (∀ b ∈ bs, ∃ c ∈ cs, b.2.2 = c.2.2) ∧ i ≤ cs.length) ?_ ?_ ?_ ?_
    · exact ⟨_, _, _, [], [], rfl, But.refl, e_fd, h_fd, .nil, bandC_nil, (fun x y => by rw [List.take_zero]), (fun s m => by cases m), Nat.zero_le _, (fun s m => by cases m), Nat.zero_le _⟩
    · rintro i _ H' _ ⟨y2, y3, y4, qs, bs, rfl, bt, eD, _⟩
      exact ex_l eD hl
    · rintro i x _ H' hx ⟨y2, y3, y4, qs, bs, rfl, bt, eD, hfd, rq, bc, mem, low, ls, vw, il⟩
      obtain ⟨y, c, rfl, hc, bd⟩ := bds_at rj2 hx
      obtain ⟨tc, hy, sp⟩ := bd_but bt h_fd bd
      have ip := (List.getElem?_eq_some_iff.mp hc).1
      obtain ⟨gc1, gc2⟩ := good c (List.mem_of_getElem? hc)
      have nxt : ∀ j d, i + 1 ≤ j → cs[j]? = some d → c.2.1 ≤ d.1 := fun j d hj hd => by
        obtain ⟨lj, ej⟩ := List.getElem?_eq_some_iff.mp hd
        obtain ⟨li, ei⟩ := List.getElem?_eq_some_iff.mp hc
        have h := List.pairwise_iff_getElem.mp ord i j li lj (by omega)
        rw [ei, ej] at h
        exact h
      have tk : ∀ x y, PtB (cs.take (i + 1)) x y ↔ PtB (cs.take i) x y ∨ ((c.1 ≤ y ∧ y < c.2.1) ∧ InS c.2.2 x) := fun x y => by
        rw [List.take_add_one, hc, Option.toList_some, ptB_app, ptB_one]
      repeat fail "st"
      intro en n_en
      generalize hh : upd _ en _ = H_en
      have e_en := newEx hh n_en
      have h_en := newAt hh
      clear hh
      refine eq_sp0 (sp.up e_en) h_en ?_
      have bt := bt.up e_en; have eD := eD.trans e_en; have hfd := e_en _ _ hfd; have rq := rq.up e_en; have sp := sp.up e_en; have hy := e_en _ _ hy
      clear e_en h_en
      repeat fail "st"
      have skip : (∀ x y, ¬ ((c.1 ≤ y ∧ y < c.2.1) ∧ InS c.2.2 x)) → ∀ x y, PtB bs x y ↔ PtB (cs.take (i + 1)) x y := fun n x y => by
        rw [tk, mem]
        exact ⟨.inl, fun h => h.elim id fun k => absurd k (n x y)⟩
      have low1 : ∀ b ∈ bs, ∀ j d, i + 1 ≤ j → cs[j]? = some d → b.2.1 ≤ d.1 := fun b m j d hj hd => low b m j d (by omega) hd
      refine ifD (fun z1 => ?_) (fun z1 => ?_)
      · repeat fail "st"
        exact ⟨_, _, _, qs, bs, rfl, bt, eD, hfd, rq, bc, skip (fun x y n => by obtain ⟨s, m, _⟩ := n.2; rw [z1] at m; cases m), low1, Nat.le_succ_of_le ls, vw, ip⟩
      repeat fail "st"
      refine ifD (fun z2 => ?_) (fun z2 => ?_)
      · have e2 : c.1 = c.2.1 := V.int.inj z2
        repeat fail "st"
        exact ⟨_, _, _, qs, bs, rfl, bt, eD, hfd, rq, bc, skip (fun x y n => by have := n.1; omega), low1, Nat.le_succ_of_le ls, vw, ip⟩
      have lc : c.1 < c.2.1 := by
        have n : ¬ c.1 = c.2.1 := fun e => z2 (congrArg V.int e)
        omega
      repeat fail "st"
      intro eo n_eo
      generalize hh : upd _ eo _ = H_eo
      have e_eo := newEx hh n_eo
      have h_eo := newAt hh
      clear hh
      refine ne_nilB (SqL.of (e_eo _ _ hfd)) (rq.up e_eo) h_eo ?_
      have bt := bt.up e_eo; have eD := eD.trans e_eo; have hfd := e_eo _ _ hfd; have rq := rq.up e_eo; have sp := sp.up e_eo; have hy := e_eo _ _ hy
      clear e_eo h_eo
      repeat fail "st"
      refine ifNt (fun n0 => ?_) (fun n0 => ?_)
      · obtain ⟨gs, t, es⟩ := (List.eq_nil_or_concat bs).resolve_left (of_decide_eq_false n0)
        rw [List.concat_eq_append] at es
        subst es
        obtain ⟨ds, d, rfl, rg, tt, ht, spt⟩ := bds_unsnoc rq
        have hfd1 : H_eo fd = some (.lst (ds.map V.ref ++ [.ref d])) := by rw [hfd, List.map_append]; rfl
        have lo := low t (List.mem_append_right _ (List.mem_singleton.mpr rfl)) i c (Nat.le_refl _) hc
        have il1 : ∀ {Q : VK}, Q (.ref d) H_eo → rIx K (.ref fd) (.int (-1)) H_eo Q := fun q => ixL_last (K := K) hfd1 q
        repeat fail "st"
        refine il1 ?_
        repeat fail "st"
        refine ifD (fun z3 => ?_) (fun z3 => ?_)
        · have e3 : t.2.1 = c.1 := V.int.inj z3
          repeat fail "st"
          refine il1 ?_
          repeat fail "st"
          refine eq_sp spt sp ?_
          repeat fail "st"
          refine ifD (fun z4 => ?_) (fun z4 => ?_)
          · repeat fail "st"
            refine il1 ?_
            repeat fail "st"
            intro nt n_nt
            generalize hh : upd _ nt _ = H_nt
            have e_nt := newEx hh n_nt
            have h_nt := newAt hh
            clear hh
            repeat fail "st"
            have hfd2 := e_nt _ _ hfd1
            have ne : nt ≠ fd := fun z => by rw [z, hfd] at n_nt; cases n_nt
            have be := band_ext (b := c.2.1) bc (by omega)
            refine setL_last hfd2 ?_
            refine ⟨_, _, _, ds ++ [nt], gs ++ [(t.1, c.2.1, t.2.2)], rfl, But.mut (bt.up e_nt), Ex.mut (eD.trans e_nt) n_fd, by rw [upd_same, List.map_append]; rfl, ?_, be.1, fun x y => ?_, fun s m j q hj hq => ?_, ?_, fun s m => ?_, ip⟩
            · exact bds_snoc ⟨tc, by show upd H_nt fd _ nt = _; rw [upd_ne ne]; exact h_nt, by show SpT K _ tc t.2.2; rw [z4]; exact spT_but (But.mut But.refl) hfd2 (sp.up e_nt)⟩ (bds_but (But.mut But.refl) hfd2 (rg.up e_nt))
            · rw [be.2, tk, mem, e3, z4]
            · rcases List.mem_append.mp m with m | m
              · exact low1 s (List.mem_append_left _ m) j q hj hq
              · rw [List.mem_singleton.mp m]
                exact nxt j q hj hq
            · rw [List.length_append] at ls ⊢
              exact Nat.le_succ_of_le ls
            · rcases List.mem_append.mp m with m | m
              · exact vw s (List.mem_append_left _ m)
              · rw [List.mem_singleton.mp m]
                exact vw t (List.mem_append_right _ (List.mem_singleton.mpr rfl))
          · skip
            repeat fail "st"
            refine ⟨.inl ⟨rfl, _, SqL.of hfd⟩, ?_⟩
            repeat fail "st"
            intro nt n_nt
            generalize hh : upd _ nt _ = H_nt
            have e_nt := newEx hh n_nt
            have h_nt := newAt hh
            clear hh
            have hfd2 := e_nt _ _ hfd
            have lq := Paired.length rq
            have ne : nt ≠ fd := fun z => by rw [z, hfd] at n_nt; cases n_nt
            have ba := band_add (b := c) bc lc lo (fun _ => z4) gc2 z1
            refine ⟨fd, _, _, rfl, rfl, hfd2, Nat.lt_of_lt_of_le (show _ < 6000 by rw [List.length_map]; omega) (by decide), ?_⟩
            refine ⟨_, _, _, (ds ++ [d]) ++ [nt], gs ++ [t] ++ [c], rfl, But.mut (bt.up e_nt), Ex.mut (eD.trans e_nt) n_fd, by rw [upd_same, List.map_append (l₁ := ds ++ [d])]; rfl, ?_, ba.1, fun x y => ?_, fun s m j q hj hq => ?_, ?_, fun s m => ?_, ip⟩
            · exact bds_snoc ⟨tc, by show upd H_nt fd _ nt = _; rw [upd_ne ne]; exact h_nt, spT_but (But.mut But.refl) hfd2 (sp.up e_nt)⟩ (bds_but (But.mut But.refl) hfd2 (rq.up e_nt))
            · rw [ba.2, tk, mem]
            · rcases List.mem_append.mp m with m | m
              · exact low1 s m j q hj hq
              · rw [List.mem_singleton.mp m]
                exact nxt j q hj hq
            · rw [List.length_append]
              exact Nat.succ_le_succ ls
            · rcases List.mem_append.mp m with m | m
              · exact vw s m
              · rw [List.mem_singleton.mp m]
                exact ⟨c, List.mem_of_getElem? hc, rfl⟩
        · skip
          repeat fail "st"
          refine ⟨.inl ⟨rfl, _, SqL.of hfd⟩, ?_⟩
          repeat fail "st"
          intro nt n_nt
          generalize hh : upd _ nt _ = H_nt
          have e_nt := newEx hh n_nt
          have h_nt := newAt hh
          clear hh
          have hfd2 := e_nt _ _ hfd
          have lq := Paired.length rq
          have ne : nt ≠ fd := fun z => by rw [z, hfd] at n_nt; cases n_nt
          have ba := band_add (b := c) bc lc lo (fun e => absurd (congrArg V.int e) z3) gc2 z1
          refine ⟨fd, _, _, rfl, rfl, hfd2, Nat.lt_of_lt_of_le (show _ < 6000 by rw [List.length_map]; omega) (by decide), ?_⟩
          refine ⟨_, _, _, (ds ++ [d]) ++ [nt], gs ++ [t] ++ [c], rfl, But.mut (bt.up e_nt), Ex.mut (eD.trans e_nt) n_fd, by rw [upd_same, List.map_append (l₁ := ds ++ [d])]; rfl, ?_, ba.1, fun x y => ?_, fun s m j q hj hq => ?_, ?_, fun s m => ?_, ip⟩
          · exact bds_snoc ⟨tc, by show upd H_nt fd _ nt = _; rw [upd_ne ne]; exact h_nt, spT_but (But.mut But.refl) hfd2 (sp.up e_nt)⟩ (bds_but (But.mut But.refl) hfd2 (rq.up e_nt))
          · rw [ba.2, tk, mem]
          · rcases List.mem_append.mp m with m | m
            · exact low1 s m j q hj hq
            · rw [List.mem_singleton.mp m]
              exact nxt j q hj hq
          · rw [List.length_append]
            exact Nat.succ_le_succ ls
          · rcases List.mem_append.mp m with m | m
            · exact vw s m
            · rw [List.mem_singleton.mp m]
              exact ⟨c, List.mem_of_getElem? hc, rfl⟩
      · obtain rfl := of_decide_eq_true n0
        repeat fail "st"
        refine ⟨.inl ⟨rfl, _, SqL.of hfd⟩, ?_⟩
        repeat fail "st"
        cases rq
        intro nt n_nt
        generalize hh : upd _ nt _ = H_nt
        have e_nt := newEx hh n_nt
        have h_nt := newAt hh
        clear hh
        have hfd2 := e_nt _ _ hfd
        have ne : nt ≠ fd := fun z => by rw [z, hfd] at n_nt; cases n_nt
        refine ⟨fd, _, _, rfl, rfl, hfd2, Nat.lt_of_lt_of_le (show 0 < 6000 by decide) (by decide), ?_⟩
        refine ⟨_, _, _, [nt], [c], rfl, But.mut (bt.up e_nt), Ex.mut (eD.trans e_nt) n_fd, upd_same, ?_, bandC_one lc gc2 z1, fun x y => ?_, fun s m j q hj hq => ?_, Nat.succ_le_succ (Nat.zero_le _), (fun s m => ⟨c, List.mem_of_getElem? hc, by rw [List.mem_singleton.mp m]⟩), ip⟩
        · exact .cons ⟨tc, by show upd H_nt fd _ nt = _; rw [upd_ne ne]; exact h_nt, spT_but (But.mut But.refl) hfd2 (sp.up e_nt)⟩ .nil
        · rw [tk, ← mem, ptB_one]
          exact ⟨.inr, fun h => h.elim (fun ⟨v, ⟨r, m, _⟩, _⟩ => by cases m) id⟩
        · rw [List.mem_singleton.mp m]
          exact nxt j q hj hq
    · rintro _ H' ⟨y2, y3, y4, qs, bs, rfl, bt, eD, hfd, rq, bc, mem, low, ls, vw, il⟩
      rw [List.length_map, lj, List.take_length] at mem
      rw [List.length_map, lj] at ls
      repeat fail "st"
      refine ⟨fd, _, rfl, .inl ⟨SqL.of hfd, fun t nt => ?_⟩⟩
      exact q t bs _ (eD.trans (Ex.new nt)) ⟨qs, SqT.of upd_same, rq.up (Ex.new nt)⟩ bc mem ls vw
end

end K14
namespace K14
open PySem PySem.Spec PyProof.Rows L2 Evl Lw
section
variable {P : Program} {w : World} {K : PySem.W.Frag} {mg : Str → Option Value} {base : Heap}
def quadOf (b : Box) : Option Quad := if 0 < b.2.2.1 ∧ 0 < b.2.2.2 then some (b.2.1, b.1, b.2.2.1, b.2.2.2) else none
def boxQ (q : Quad) : Box := (q.2.1, q.1, q.2.2.1, q.2.2.2)
theorem quadOf_some {b : Box} {q : Quad} : quadOf b = some q ↔ (0 < b.2.2.1 ∧ 0 < b.2.2.2) ∧ b = boxQ q := by
  obtain ⟨x, y, w, h⟩ := b
  obtain ⟨a, b, c, d⟩ := q
  unfold quadOf boxQ
  by_cases e : 0 < w ∧ 0 < h
  · rw [if_pos e]
    simp only [Option.some.injEq, Prod.mk.injEq]
    constructor
    · rintro ⟨rfl, rfl, rfl, rfl⟩
      exact ⟨e, rfl, rfl, rfl, rfl⟩
    · rintro ⟨_, rfl, rfl, rfl, rfl⟩
      exact ⟨rfl, rfl, rfl, rfl⟩
  · rw [if_neg e]
    simp [e]
theorem mem_quads {bs : List Box} {q : Quad} : q ∈ bs.filterMap quadOf ↔ (0 < q.2.2.1 ∧ 0 < q.2.2.2) ∧ boxQ q ∈ bs := by
  rw [List.mem_filterMap]
  constructor
  · rintro ⟨b, m, e⟩
    obtain ⟨p, rfl⟩ := quadOf_some.mp e
    exact ⟨p, m⟩
  · rintro ⟨p, m⟩
    exact ⟨_, m, quadOf_some.mpr ⟨p, rfl⟩⟩
/-- the bands of the points of some rectangles -/
def BandsFor (bs : List Box) (cs : List Band) : Prop := BandC cs ∧ (∀ x y, PtB cs x y ↔ ∃ b ∈ bs, InBox b (x, y)) ∧ cs.length ≤ 2 * bs.length ∧ ∀ c ∈ cs, c.2.2.length ≤ bs.length
def spBandsOf (K : PySem.W.Frag) : Sp := fun vs H Q _ => ∃ l js bs, SqT K H l (js.map V.ref) ∧ vs = [.ref l] ∧ Boxes H js bs ∧ bs.length ≤ 2000 ∧
  ∀ t cs H', Ex H H' → BdT K H' t cs → BandsFor bs cs → Q (.ref t) H'
theorem boxAt_exT {H H' : Hp} {y : V} {q : Quad} (e : ExT H H') (h : ∃ a, y = V.ref a ∧ BoxAt H a q) : ∃ a, y = V.ref a ∧ BoxAt H' a q := let ⟨a, e1, e2⟩ := h; ⟨a, e1, e a _ (fun xs z => by cases z) e2⟩
theorem boxes_but {H H' : Hp} {a : Addr} {xs : List V} (e : But a H H') (ha : H a = some (.lst xs)) : ∀ {qs : List Addr} {bs : List Box}, Boxes H qs bs → Boxes H' qs bs
  | _, _, .nil => .nil
  | _, _, .cons h t => .cons (e _ _ (fun z => by
      have h' := z ▸ h
      rw [show H a = _ from h'] at ha
      cases ha) h) (boxes_but e ha t)
set_option maxHeartbeats 8000000 in
theorem c_bands_of (T : Txt K mg) : Cl P w K mg base CX0 2 "bands_of" s_bands_of ["rects"] (spBandsOf K) := by
  refine cl_of (k := 1) T.d_bands_of sc_bands_of (fun vs H Q E h => ?_) (fun f cdv A outer s H vs Q E hr h => ?_)
  · obtain ⟨l, js, bs, _, rfl, _⟩ := h
    rfl
  · obtain ⟨l, js, bs, hl, rfl, rj, len, q⟩ := h
    have nd := sc_bands_of.nd
    have lj := Paired.length rj
    refine ⟨_, (pss_cons (ps_set (i := 1) nd rfl (Or.inl rfl) (pe_callB (Lw.cr_sortedQ) (by rfl) T.b_sorted bt_sorted (pa_cons (pe_lc (own := [("x", 8), ("y", 9), ("width", 10), ("height", 11)]) (g := gTup K 4 (gCons (gName 8) (gCons (gName 9) (gCons (gName 10) (gCons (gName 11) (gNil)))))) rfl nd (pi_tup (pv 0)) (L2.blkOk_by (N := N_bands_of) (sc := defScope s_bands_of) (by decide +kernel)) (fun _ _ _ _ _ => (pg_tup rfl (pgs_cons (pg_name (i := 8) nd rfl (Or.inl rfl)) (pgs_cons (pg_name (i := 9) nd rfl (Or.inl rfl)) (pgs_cons (pg_name (i := 10) nd rfl (Or.inl rfl)) (pgs_cons (pg_name (i := 11) nd rfl (Or.inl rfl)) pgs_nil)))))) (fun _ _ _ _ _ => (pts_one (PW.pt (pw_and (pt_cmpR op_gt (pv 10) pe_int (nomark _)) (pw_and1 (pt_cmpR op_gt (pv 11) pe_int (nomark _))))))) (fun _ _ _ _ _ => (pe_tup (pa_cons (pv 9) (pa_cons (pv 8) (pa_cons (pv 10) (pa_cons (pv 11) pa_nil))))))) pa_nil)))
      (pss_cons (ps_set (i := 2) nd rfl (Or.inl rfl) (pe_callB ((Lw.cr_sortSI rfl)) (by rfl) T.b_sorted bt_sorted (pa_cons (pe_callTy (Lw.cr_setI rfl) (by rfl) T.b_set bt_set (pa_cons (pe_op op_cat (pe_lc (own := [("row", 12)]) (g := gName 12) (tt := tYes) rfl nd (pi_list (pv 1)) (L2.blkOk_by (N := N_bands_of) (sc := defScope s_bands_of) (by decide +kernel)) (fun _ _ _ _ _ => (pg_name (i := 12) nd rfl (Or.inl rfl))) (fun _ _ _ _ _ => pts_nil) (fun _ _ _ _ _ => (pe_ix (ix_seq : IxR _ (rIx K)) (pv 12) pe_int (fun _ _ => rfl)))) (pe_lc (own := [("row", 12)]) (g := gName 12) (tt := tYes) rfl nd (pi_list (pv 1)) (L2.blkOk_by (N := N_bands_of) (sc := defScope s_bands_of) (by decide +kernel)) (fun _ _ _ _ _ => (pg_name (i := 12) nd rfl (Or.inl rfl))) (fun _ _ _ _ _ => pts_nil) (fun _ _ _ _ _ => (pe_op op_add (pe_ix (ix_seq : IxR _ (rIx K)) (pv 12) pe_int (fun _ _ => rfl)) (pe_ix (ix_seq : IxR _ (rIx K)) (pv 12) pe_int (fun _ _ => rfl)))))) pa_nil)) pa_nil)))
      (pss_cons (ps_set (i := 3) nd rfl (Or.inl rfl) (pe_lst pa_nil))
      (pss_cons (ps_set (i := 4) nd rfl (Or.inl rfl) (pe_lst pa_nil))
      (pss_cons (ps_set (i := 5) nd rfl (Or.inl rfl) pe_int)
      (pss_cons (ps_for PassesOwn.never rfl (RZ.pi_zipA (by rfl) T.b_zip (pa_cons (pv 2) (pa_cons (pe_slice sl_list (pv 2) (po_some pe_int) po_none) pa_nil))) (pg_tup rfl (pgs_cons (pg_name (i := 6) nd rfl (Or.inr rfl)) (pgs_cons (pg_name (i := 7) nd rfl (Or.inl rfl)) pgs_nil))) (pss_cons (ps_setLc (own := [("row", 12)]) (g := gName 12) (i := 4) rfl nd rfl rfl (sw_true rfl rfl rfl (by decide +kernel)) (pi_list (pv 4)) (L2.blkOk_by (N := N_bands_of) (sc := defScope s_bands_of) (by decide +kernel)) (fun _ _ _ _ _ => (pg_name (i := 12) nd rfl (Or.inl rfl))) (fun _ _ _ _ _ => (pts_one (pt_cmpR op_gt (pe_op op_add (pe_ix (ix_seq : IxR _ (rIx K)) (pv 12) pe_int (fun _ _ => rfl)) (pe_ix (ix_seq : IxR _ (rIx K)) (pv 12) pe_int (fun _ _ => rfl))) (pv 6) (nomark _)))) (fun _ _ _ _ _ => (pv 12)))
      (pss_cons (ps_while PassesOwn.never (PW.pt (pw_and (pt_cmpR op_lt (pv 5) (pe_callB (call_len) (by rfl) T.b_len bt_len (pa_cons (pv 1) pa_nil)) (nomark _)) (pw_and1 (pt_cmpR op_le (pe_ix ix_seq (pe_ix ix_seq (pv 1) (pv 5) (fun _ _ => rfl)) pe_int (fun _ _ => rfl)) (pv 6) (nomark _))))) (pss_cons (ps_expr (pe_bm PySem.F.plainAttrs_list PySem.F.slot_list_append PySem.F.type_list_append mt_append (pv 4) (pa_cons (pe_ix ix_seq (pv 1) (pv 5) (fun _ _ => rfl)) pa_nil)))
      (pss_one (ps_aug (i := 5) nd rfl (Or.inl rfl) pe_int ip_add))))
      (pss_one (ps_expr (pe_bm PySem.F.plainAttrs_list PySem.F.slot_list_append PySem.F.type_list_append mt_append (pv 3) (pa_cons (pe_tup (pa_cons (pv 6) (pa_cons (pv 7) (pa_cons (Lw.pe_cl (c_joined_spans T) b_joined_spans hr (by decide) (by rfl) pass0 (pa_cons (pe_lc (own := [("y", 9), ("x", 8), ("width", 10), ("height", 11)]) (g := gTup K 4 (gCons (gName 9) (gCons (gName 8) (gCons (gName 10) (gCons (gName 11) (gNil)))))) (tt := tYes) rfl nd (pi_list (pv 4)) (L2.blkOk_by (N := N_bands_of) (sc := defScope s_bands_of) (by decide +kernel)) (fun _ _ _ _ _ => (pg_tup rfl (pgs_cons (pg_name (i := 9) nd rfl (Or.inl rfl)) (pgs_cons (pg_name (i := 8) nd rfl (Or.inl rfl)) (pgs_cons (pg_name (i := 10) nd rfl (Or.inl rfl)) (pgs_cons (pg_name (i := 11) nd rfl (Or.inl rfl)) pgs_nil)))))) (fun _ _ _ _ _ => pts_nil) (fun _ _ _ _ _ => (pe_tup (pa_cons (pv 8) (pa_cons (pe_op op_add (pv 8) (pv 10)) pa_nil))))) pa_nil)) pa_nil)))) pa_nil)))))))
      (pss_one (ps_ret (Lw.pe_cl (c_joined_bands T) b_joined_bands hr (by decide) (by rfl) pass0 (pa_cons (pv 3) pa_nil)))))))))), ?_⟩
    repeat fail "st"
    intro D hD
    refine lcT (SiftG quadOf (fun H v q => ∃ a, v = V.ref a ∧ BoxAt H a q) bs) (siftG_mono fun H H' y b e h => boxAt_exT e h) hD hl (by rw [List.length_map]; omega) (fun i v hi H1 e Q1 Q2 q1 q2 => ?_) (fun H1 os e1 hl1 hD1 hp1 => ?_)
    · obtain ⟨a, b, rfl, hb, ba⟩ := boxes_at (rj.up e) hi
      have ba' : H1 a = some (.tup [.int b.1, .int b.2.1, .int b.2.2.1, .int b.2.2.2]) := ba
      repeat fail "st"
      refine ifD (fun c1 => ?_) (fun c1 => ?_)
      · repeat fail "st"
        refine ifD (fun c2 => ?_) (fun c2 => ?_)
        · repeat fail "st"
          intro t n_t
          generalize hh : upd _ t _ = H_t
          have e_t := newEx hh n_t
          have h_t := newAt hh
          clear hh
          exact q1 _ _ e_t ⟨b, hb, .inl ⟨(b.2.1, b.1, b.2.2.1, b.2.2.2), _, if_pos ⟨c1, c2⟩, rfl, t, rfl, h_t⟩⟩
        · exact q2 _ (Ex.refl _) ⟨b, hb, .inr ⟨if_neg (fun z => c2 z.2), rfl⟩⟩
      · exact q2 _ (Ex.refl _) ⟨b, hb, .inr ⟨if_neg (fun z => c1 z.1), rfl⟩⟩
    have pr := siftG_all (by rw [hl1, List.length_map, lj]) hp1
    obtain ⟨wa, ew, rw0⟩ := paired_refs pr
    rw [ew] at hD1
    have lw := List.length_filterMap_le quadOf bs
    have rw := rw0
    dsimp (config := { proj := false }) only [tNil]
    refine srt_boxes (K := K) (SqL.of hD1) rw fun sp qs rs nsp rq pm srt => ?_
    have pm' : ∀ r, r ∈ rs ↔ (0 < r.2.2.1 ∧ 0 < r.2.2.2) ∧ boxQ r ∈ bs := fun r => pm.mem_iff.trans mem_quads
    generalize hh : upd H1 sp _ = H2
    have e2 := newEx hh nsp
    have h2 := newAt hh
    clear hh
    have eA := e1.trans e2
    have rq2 := rq.up e2
    have lrs : rs.length ≤ bs.length := by rw [pm.length_eq]; exact lw
    have lq := Paired.length rq
    clear hD1 rw rw0 pr hp1 ew e1 e2 rq pm
    repeat fail "st"
    intro D1 hD1
    refine lcL (All fun i v _ => ∃ r, rs[i]? = some r ∧ v = V.int r.1) (all_mono fun _ _ _ _ _ h => h) hD1 (SqL.of h2) (by rw [List.length_map]; omega) (fun i v hi H1 e Q1 Q2 q1 q2 => ?_) (fun H3 os1 e3 hl3 hD3 hp3 => ?_)
    · obtain ⟨y, r, rfl, hr', rp⟩ := boxes_at (rq2.up e) hi
      have rp' : H1 y = some (.tup [.int r.1, .int r.2.1, .int r.2.2.1, .int r.2.2.2]) := rp
      repeat fail "st"
      exact q1 _ _ (Ex.refl _) ⟨_, rfl, r, hr', rfl⟩
    obtain ⟨ys, ey, ly, hy⟩ := All.end hp3
    rw [ey, vals_map (f := fun r : Quad => V.int r.1) (fs := rs) (by rw [ly, hl3, List.length_map, lq]) hy] at hD3
    have h23 := e3 _ _ h2
    have rq3 := rq2.up e3
    clear hp3 ey ly hy
    repeat fail "st"
    intro D2 hD2
    refine lcL (All fun i v _ => ∃ r, rs[i]? = some r ∧ v = V.int (r.1 + r.2.2.2)) (all_mono fun _ _ _ _ _ h => h) hD2 (SqL.of h23) (by rw [List.length_map]; omega) (fun i v hi H1 e Q1 Q2 q1 q2 => ?_) (fun H4 os2 e4 hl4 hD4 hp4 => ?_)
    · obtain ⟨y, r, rfl, hr', rp⟩ := boxes_at (rq3.up e) hi
      have rp' : H1 y = some (.tup [.int r.1, .int r.2.1, .int r.2.2.1, .int r.2.2.2]) := rp
      repeat fail "st"
      exact q1 _ _ (Ex.refl _) ⟨_, rfl, r, hr', rfl⟩
    obtain ⟨ys, ey, ly, hy⟩ := All.end hp4
    rw [ey, vals_map (f := fun r : Quad => V.int (r.1 + r.2.2.2)) (fs := rs) (by rw [ly, hl4, List.length_map, lq]) hy] at hD4
    have h24 := e4 _ _ h23
    have rq4 := rq3.up e4
    clear hp4 ey ly hy
    refine ⟨D1, D2, _, _, rfl, rfl, e4 _ _ hD3, hD4, by rw [List.length_map, List.length_map]; exact Nat.le_trans (by omega) line_ge, fun p4 np4 => ?_⟩
    rw [show rs.map (fun r : Quad => V.int r.1) ++ rs.map (fun r : Quad => V.int (r.1 + r.2.2.2)) = (rs.map (fun r => r.1) ++ rs.map (fun r => r.1 + r.2.2.2)).map V.int by rw [List.map_append, List.map_map, List.map_map]; rfl]
    generalize hes : rs.map (fun r : Quad => r.1) ++ rs.map (fun r => r.1 + r.2.2.2) = es0
    have les0 : es0.length ≤ 4000 := by rw [← hes, List.length_append, List.length_map, List.length_map]; omega
    generalize hh : upd H4 p4 _ = H5
    have e5 := newEx hh np4
    have h5 := newAt hh
    clear hh
    dsimp (config := { proj := false }) only [tNil]
    refine ⟨p4, es0, rfl, SqL.of h5, Nat.lt_of_le_of_lt (show _ ≤ 4001 by omega) (by decide), fun a5 c5 n5 lc5 => ?_⟩
    generalize hh : upd H5 a5 _ = H6
    have e6 := newEx hh n5
    have h6 := newAt hh
    clear hh
    refine ⟨a5, _, _, rfl, h6, fun es pe asc mes lenes npe => ?_⟩
    generalize hh : upd H6 pe _ = H7
    have e7 := newEx hh npe
    have h7 := newAt hh
    clear hh
    have eB : Ex H H7 := eA.trans (e3.trans (e4.trans (e5.trans (e6.trans e7))))
    have eC : Ex H4 H7 := e5.trans (e6.trans e7)
    have hsp := eC _ _ h24
    have rq7 := rq4.up eC
    have mes' : ∀ z, z ∈ es ↔ ∃ r ∈ rs, z = r.1 ∨ z = r.1 + r.2.2.2 := fun z => by
      rw [mes, decide_eq_true_eq, ← hes, List.mem_append, List.mem_map, List.mem_map]
      constructor
      · rintro (⟨r, m, rfl⟩ | ⟨r, m, rfl⟩)
        · exact ⟨r, m, .inl rfl⟩
        · exact ⟨r, m, .inr rfl⟩
      · rintro ⟨r, m, rfl | rfl⟩
        · exact .inl ⟨r, m, rfl⟩
        · exact .inr ⟨r, m, rfl⟩
    have les : es.length ≤ 2 * bs.length := by
      have : es0.length = 2 * rs.length := by rw [← hes, List.length_append, List.length_map, List.length_map]; omega
      omega
    clear e3 e4 e5 e6 e7 eA eC h23 h24 hD3 hD4 h5 h6 h2 rq2 rq3 rq4 mes hes lenes lc5
    have lqr := Paired.length rq7
    clear hl1 os lw D1 hD1 H3 os1 hl3 D2 hD2 H4 os2 hl4 p4 np4 les0 es0 H5 a5 c5 n5 H6 npe H2 nsp hD D
    repeat fail "st"
    intro fd n_fd
    generalize hh : upd _ fd _ = H_fd
    have e_fd := newEx hh n_fd
    have h_fd := newAt hh
    clear hh
    have eB0 := eB
    have npf : pe ≠ fd := ne_of_none h7 n_fd
    have nsf : sp ≠ fd := ne_of_none hsp n_fd
    have hsp := e_fd _ _ hsp; have rq8 := rq7.up e_fd; have h8 := e_fd _ _ h7; have eB := eB.trans e_fd
    clear e_fd h7 rq7
    repeat fail "st"
    intro al n_al
    generalize hh : upd _ al _ = H_al
    have e_al := newEx hh n_al
    have h_al := newAt hh
    clear hh
    have hsp := e_al _ _ hsp; have rq8 := rq8.up e_al; have h8 := e_al _ _ h8; have eB := eB.trans e_al; have hfd := e_al _ _ h_fd
    have nfa : al ≠ fd := fun z => by rw [z, h_fd] at n_al; cases n_al
    have nfd0 : H fd = none := ex_no eB0 n_fd
    clear e_al h_fd n_al n_fd
    repeat fail "st"
    intro t1 n_t1
    generalize hh : upd _ t1 _ = H_t1
    have e_t1 := newEx hh n_t1
    have h_t1 := newAt hh
    clear hh
    have hsp := e_t1 _ _ hsp; have rq8 := rq8.up e_t1; have h8 := e_t1 _ _ h8; have eB := eB.trans e_t1; have hfd0 := hfd; have hfd := e_t1 _ _ hfd; have hal := e_t1 _ _ h_al; have hfd1 := hfd
    have nt1 : t1 ≠ fd := fun z => by rw [z] at n_t1; rw [hfd0] at n_t1; cases n_t1
    rw [cut_tail, ← List.map_tail] at h_t1
    have ltl : es.tail.length = es.length - 1 := List.length_tail
    dsimp (config := { proj := false }) only [tNil]
    refine ⟨pe, t1, es.map V.int, es.tail.map V.int, rfl, .inl ⟨SqL.of h8, SqL.of h_t1, ?_⟩⟩
    refine for_zipS (xs := es.map V.int) (ys := es.tail.map V.int) (by rw [List.length_map, List.length_map, ltl]; omega) (fun i σ H' => ∃ al las ls y6 y7 ds cs kk, σ = [some (.ref l), some (.ref sp), some (.ref pe), some (.ref fd), some (.ref al), some (.int (kk : Nat)), y6, y7, none, none, none, none, none] ∧ But fd H_t1 H' ∧ Ex H H' ∧
      H' fd = some (.lst (ds.map V.ref)) ∧ H' al = some (.lst (las.map V.ref)) ∧ al ≠ fd ∧ Bds K H' ds cs ∧ Boxes H' las ls ∧ cs.length = i ∧ kk ≤ rs.length ∧ ls.length ≤ kk ∧ Swp rs es i kk ls ∧
      ∀ (j : Nat) (c : Band), cs[j]? = some c → ∃ a b, es[j]? = some a ∧ es[j + 1]? = some b ∧ c.1 = a ∧ c.2.1 = b ∧ SpanC c.2.2 ∧ (∀ x, InS c.2.2 x ↔ ∃ r ∈ rs, (r.1 ≤ a ∧ a < r.1 + r.2.2.2) ∧ r.2.1 ≤ x ∧ x < r.2.1 + r.2.2.1) ∧ c.2.2.length ≤ rs.length) ?_ ?_ ?_ ?_ ?_
    · exact ⟨al, [], [], _, _, [], [], 0, rfl, But.refl, eB, hfd, hal, nfa, .nil, .nil, rfl, Nat.zero_le _, Nat.le_refl _, swp_start, fun j c h => by simp at h⟩
    · rintro i _ H' ⟨al, las, ls, y6, y7, ds, cs, kk, rfl, bt, _⟩
      exact SqL.of (bt _ _ npf h8)
    · rintro i _ H' ⟨al, las, ls, y6, y7, ds, cs, kk, rfl, bt, _⟩
      exact SqL.of (bt _ _ nt1 h_t1)
    · rintro i x y tt _ H' hx hy ⟨al, las, ls, y6, y7, ds, cs, kk, rfl, bt, eD, hfd, hal, nfa, rd, rl, lc, lk, ll, sw, good⟩ ntt
      rw [List.getElem?_map] at hx hy
      obtain ⟨top, htop, rfl⟩ := Option.map_eq_some_iff.mp hx
      obtain ⟨bot, hbot, rfl⟩ := Option.map_eq_some_iff.mp hy
      rw [List.getElem?_tail] at hbot
      generalize hh : upd H' tt _ = H9
      have e9 := newEx hh ntt
      have h9 := newAt hh
      clear hh
      have bt := bt.up e9; have eD := eD.trans e9; have hfd := e9 _ _ hfd; have hal := e9 _ _ hal; have rd := rd.up e9; have rl := rl.up e9
      repeat fail "st"
      clear e9 h9
      have hsp1 := bt _ _ nsf hsp
      have rq1 := boxes_but bt hfd1 rq8
      intro D hD
      have nsD : sp ≠ D := ne_of_none hsp1 hD
      have nfD : fd ≠ D := ne_of_none hfd hD
      have nHD : H_t1 D = none := but_no bt hfd hD
      have nH0 : H D = none := ex_no eD hD
      have lla := Paired.length rl
      refine lcL (SiftG (fun r : Quad => if top < r.1 + r.2.2.2 then some r else none) (fun H v q => ∃ a, v = V.ref a ∧ BoxAt H a q) ls) (siftG_mono fun H H' y b e h => boxAt_exT e h) hD (SqL.of hal) (by rw [List.length_map]; omega) (fun i v hi H1 e Q1 Q2 q1 q2 => ?_) (fun H1 os e1 hl1 hD1 hp1 => ?_)
      · obtain ⟨a, b, rfl, hb, ba⟩ := boxes_at (rl.up e) hi
        have ba' : H1 a = some (.tup [.int b.1, .int b.2.1, .int b.2.2.1, .int b.2.2.2]) := ba
        repeat fail "st"
        refine ifD (fun c1 => ?_) (fun c1 => ?_)
        · repeat fail "st"
          exact q1 _ _ (Ex.refl _) ⟨b, hb, .inl ⟨b, _, if_pos c1, rfl, a, rfl, ba⟩⟩
        · exact q2 _ (Ex.refl _) ⟨b, hb, .inr ⟨if_neg c1, rfl⟩⟩
      have pr := siftG_all (by rw [hl1, List.length_map, lla]) hp1
      obtain ⟨wa, ew, rw0⟩ := paired_refs pr
      rw [ew] at hD1
      rw [filterMap_ite (p := fun r : Quad => top < r.1 + r.2.2.2)] at rw0
      generalize hfl : ls.filter (fun r => decide (top < r.1 + r.2.2.2)) = fl at rw0
      have lfl : fl.length ≤ kk := by rw [← hfl]; exact Nat.le_trans (List.length_filter_le _ _) ll
      have bt := bt.up e1; have eD := eD.trans e1; have hfd := e1 _ _ hfd; have rd := rd.up e1; have hsp1 := e1 _ _ hsp1; have rq1 := rq1.up e1
      clear pr ew hp1 hal rl
      repeat fail "st"
      refine ⟨fun n σ G => ∃ mm lb, n = rs.length - mm ∧ σ = [some (.ref l), some (.ref sp), some (.ref pe), some (.ref fd), some (.ref D), some (.int (mm : Nat)), some (.int top), some (.int bot), none, none, none, none, none] ∧ But D H1 G ∧ G D = some (.lst (lb.map V.ref)) ∧
        Boxes G lb (fl ++ (rs.take mm).drop kk) ∧ kk ≤ mm ∧ mm ≤ rs.length ∧ ∀ r ∈ (rs.take mm).drop kk, r.1 ≤ top, ⟨_, kk, wa, rfl, rfl, But.refl, hD1, ?_, Nat.le_refl _, lk, ?_⟩, ?_⟩
      · rw [List.drop_eq_nil_of_le (by rw [List.length_take]; omega), List.append_nil]
        exact rw0
      · rw [List.drop_eq_nil_of_le (by rw [List.length_take]; omega)]
        exact fun r m => by cases m
      rintro _ _ G ⟨mm, lb, rfl, rfl, bw, hDG, rbG, km, ml, got⟩
      have hspG := bw _ _ nsD hsp1
      have hfdG := bw _ _ nfD hfd
      have rqG : Boxes G qs rs := boxes_but bw hD1 rq1
      repeat fail "st"
      refine ifD (fun c1 => ?_) (fun c1 => ?_)
      · rw [List.length_map, lqr] at c1
        have lm : mm < rs.length := by omega
        obtain ⟨qa, eqa, hqa⟩ := paired_at2 rqG (List.getElem?_eq_getElem lm)
        have hqa' : G qa = some (.tup [.int rs[mm].1, .int rs[mm].2.1, .int rs[mm].2.2.1, .int rs[mm].2.2.2]) := hqa
        have ixw : ∀ {Q : VK}, Q (.ref qa) G → rIx K (.ref sp) (.int (mm : Nat)) G Q := fun q => ixL_at (K := K) (j := mm) (SqL.of hspG) rfl (by rw [List.getElem?_map, eqa]; rfl) q
        repeat fail "st"
        refine ixw ?_
        repeat fail "st"
        refine ifD (fun c2 => ?_) (fun c2 => ?_)
        · refine iteT (B := True) ⟨fun σ' G' => ∃ lb, σ' = [some (.ref l), some (.ref sp), some (.ref pe), some (.ref fd), some (.ref D), some (.int ((mm + 1 : Nat) : Int)), some (.int top), some (.int bot), none, none, none, none, none] ∧ But D H1 G' ∧ G' D = some (.lst (lb.map V.ref)) ∧
            Boxes G' lb (fl ++ (rs.take (mm + 1)).drop kk), fun σ' G' ⟨lb, e1, e2, e3, e4⟩ => ⟨rs.length - (mm + 1), by omega, mm + 1, lb, rfl, e1, e2, e3, e4, by omega, lm, fun r m => ?_⟩, ?_⟩
          · rw [List.take_add_one, List.getElem?_eq_getElem lm, Option.toList_some, List.drop_append_of_le_length (by rw [List.length_take]; omega)] at m
            rcases List.mem_append.mp m with m | m
            · exact got r m
            · rw [List.mem_singleton.mp m]
              exact c2
          repeat fail "st"
          refine ⟨.inl ⟨rfl, _, SqL.of hDG⟩, ?_⟩
          repeat fail "st"
          refine ixw ?_
          repeat fail "st"
          have llb := Paired.length rbG
          rw [List.length_append, List.length_drop, List.length_take] at llb
          refine ⟨D, _, _, rfl, rfl, hDG, Nat.lt_of_lt_of_le (show _ < 6000 by rw [List.length_map]; omega) (by decide), ?_⟩
          repeat fail "st"
          refine ⟨lb ++ [qa], rfl, But.trans bw (But.mut But.refl), by rw [upd_same, List.map_append]; rfl, ?_⟩
          rw [List.take_add_one, List.getElem?_eq_getElem lm, Option.toList_some, List.drop_append_of_le_length (by rw [List.length_take]; omega), ← List.append_assoc]
          exact boxes_but (But.mut But.refl) hDG (prd_snoc hqa rbG)
        · skip
          have fin : ∀ r, rs[mm]? = some r → top < r.1 := fun r e => by
            rw [List.getElem?_eq_getElem lm] at e
            cases e
            have c3 : ¬ rs[mm].1 ≤ top := c2
            omega
          refine iteF (A := True) ?_
          obtain ⟨sw2, inn⟩ := swp_next sw asc srt (fun r m => ((pm' r).mp m).1.2) (fun r m => (mes' _).mpr ⟨r, m, .inl rfl⟩) htop km got fin
          rw [hfl] at sw2 inn
          generalize hln : fl ++ (rs.take mm).drop kk = ln at sw2 inn rbG
          have lln : ln.length ≤ mm := by
            rw [← hln, List.length_append, List.length_drop, List.length_take]
            omega
          have bt2 := But.other bt nHD bw
          have eD2 : Ex H G := fun x o h => bw x o (ne_of_none h nH0) (eD x o h)
          have rd2 := bds_but bw hD1 rd
          clear hln fin got km bw
          repeat fail "st"
          refine ⟨.inl ⟨rfl, _, SqL.of hfdG⟩, ?_⟩
          repeat fail "st"
          intro D2 hD2
          have nDD : D ≠ D2 := ne_of_none hDG hD2
          have nfD2 : fd ≠ D2 := ne_of_none hfdG hD2
          have llb := Paired.length rbG
          refine lcL (SiftG (fun r : Quad => some (r.2.1, r.2.1 + r.2.2.1)) (fun H v p => ∃ a, v = V.ref a ∧ RowAt H a p) ln) (siftG_mono fun H H' y b e ⟨a, e1, e2⟩ => ⟨a, e1, e a _ (fun xs z => by cases z) e2⟩) hD2 (SqL.of hDG) (by rw [List.length_map]; omega) (fun i v hi H1 e Q1 Q2 q1 q2 => ?_) (fun H3 os e3 hl3 hD3 hp3 => ?_)
          · obtain ⟨a, b, rfl, hb, ba⟩ := boxes_at (rbG.up e) hi
            have ba' : H1 a = some (.tup [.int b.1, .int b.2.1, .int b.2.2.1, .int b.2.2.2]) := ba
            repeat fail "st"
            intro t n_t
            generalize hh : upd _ t _ = H_t
            have e_t := newEx hh n_t
            have h_t := newAt hh
            clear hh
            exact q1 _ _ e_t ⟨b, hb, .inl ⟨_, _, rfl, rfl, t, rfl, h_t⟩⟩
          have pr := siftG_all (by rw [hl3, List.length_map, llb]) hp3
          obtain ⟨wb, ew, rwb⟩ := paired_refs pr
          rw [ew] at hD3
          rw [filterMap_map (f := fun r : Quad => (r.2.1, r.2.1 + r.2.2.1))] at rwb
          clear pr ew hp3
          repeat fail "st"
          refine ⟨D2, wb, ln.map fun r : Quad => (r.2.1, r.2.1 + r.2.2.1), SqL.of hD3, rfl, rwb, fun p m => ?_, by rw [List.length_map]; omega, fun tj ss H4 e4 st sc ins lss => ?_⟩
          · obtain ⟨r, mr, rfl⟩ := List.mem_map.mp m
            have := ((pm' r).mp ((inn r).mp mr).1).1.1
            show r.2.1 < r.2.1 + r.2.2.1
            omega
          have hfd4 := e4 _ _ (e3 _ _ hfdG)
          have hal4 := e4 _ _ (e3 _ _ hDG)
          repeat fail "st"
          intro nt n_nt
          generalize hh : upd _ nt _ = H_nt
          have e_nt := newEx hh n_nt
          have h_nt := newAt hh
          clear hh
          have hfd5 := e_nt _ _ hfd4
          have e35 := e3.trans (e4.trans e_nt)
          have lds := Paired.length rd
          have lcs : i < es.length := (List.getElem?_eq_some_iff.mp htop).1
          refine ⟨fd, _, _, rfl, rfl, hfd5, Nat.lt_of_lt_of_le (show _ < 6000 by rw [List.length_map]; omega) (by decide), ?_⟩
          refine ⟨D, lb, ln, _, _, ds ++ [nt], cs ++ [(top, bot, ss)], mm, rfl, But.trans (bt2.up e35) (But.mut But.refl), Ex.mut (eD2.trans e35) nfd0, by rw [upd_same, List.map_append]; rfl, ?_, fun z => nfD z.symm, ?_, ?_, by rw [List.length_append, lc]; rfl, ml, lln, sw2, fun j c hj => ?_⟩
          · rw [upd_ne (fun z => nfD z.symm)]
            exact e_nt _ _ hal4
          · exact bds_snoc ⟨tj, by rw [upd_ne (ne_of_none hfd4 n_nt).symm]; exact h_nt, spT_but (But.mut But.refl) hfd5 (st.up e_nt)⟩ (bds_but (But.mut But.refl) hfd5 (rd2.up e35))
          · exact boxes_but (But.mut But.refl) hfd5 (rbG.up e35)
          · by_cases k : j < cs.length
            · rw [List.getElem?_append_left k] at hj
              exact good j c hj
            · rw [List.getElem?_append_right (by omega)] at hj
              have z : j - cs.length = 0 := by
                cases y : j - cs.length with
                | zero => rfl
                | succ n => rw [y] at hj; simp at hj
              rw [z] at hj
              have ej : j = i := by omega
              have ec : (top, bot, ss) = c := Option.some.inj hj
              subst ec ej
              refine ⟨top, bot, htop, hbot, rfl, rfl, sc, fun x => ?_, ?_⟩
              · show InS ss x ↔ _
                rw [ins]
                constructor
                · rintro ⟨p, m, h⟩
                  obtain ⟨r, mr, rfl⟩ := List.mem_map.mp m
                  obtain ⟨m1, m2⟩ := (inn r).mp mr
                  exact ⟨r, m1, m2, h⟩
                · rintro ⟨r, m1, m2, h⟩
                  exact ⟨_, List.mem_map.mpr ⟨r, (inn r).mpr ⟨m1, m2⟩, rfl⟩, h⟩
              · show ss.length ≤ _
                rw [List.length_map] at lss
                omega
      · rw [List.length_map, lqr] at c1
        have fin : ∀ r, rs[mm]? = some r → top < r.1 := fun r e => by
          have := (List.getElem?_eq_some_iff.mp e).1
          omega
        refine iteF (A := True) ?_
        obtain ⟨sw2, inn⟩ := swp_next sw asc srt (fun r m => ((pm' r).mp m).1.2) (fun r m => (mes' _).mpr ⟨r, m, .inl rfl⟩) htop km got fin
        rw [hfl] at sw2 inn
        generalize hln : fl ++ (rs.take mm).drop kk = ln at sw2 inn rbG
        have lln : ln.length ≤ mm := by
          rw [← hln, List.length_append, List.length_drop, List.length_take]
          omega
        have bt2 := But.other bt nHD bw
        have eD2 : Ex H G := fun x o h => bw x o (ne_of_none h nH0) (eD x o h)
        have rd2 := bds_but bw hD1 rd
        clear hln fin got km bw
        repeat fail "st"
        refine ⟨.inl ⟨rfl, _, SqL.of hfdG⟩, ?_⟩
        repeat fail "st"
        intro D2 hD2
        have nDD : D ≠ D2 := ne_of_none hDG hD2
        have nfD2 : fd ≠ D2 := ne_of_none hfdG hD2
        have llb := Paired.length rbG
        refine lcL (SiftG (fun r : Quad => some (r.2.1, r.2.1 + r.2.2.1)) (fun H v p => ∃ a, v = V.ref a ∧ RowAt H a p) ln) (siftG_mono fun H H' y b e ⟨a, e1, e2⟩ => ⟨a, e1, e a _ (fun xs z => by cases z) e2⟩) hD2 (SqL.of hDG) (by rw [List.length_map]; omega) (fun i v hi H1 e Q1 Q2 q1 q2 => ?_) (fun H3 os e3 hl3 hD3 hp3 => ?_)
        · obtain ⟨a, b, rfl, hb, ba⟩ := boxes_at (rbG.up e) hi
          have ba' : H1 a = some (.tup [.int b.1, .int b.2.1, .int b.2.2.1, .int b.2.2.2]) := ba
          repeat fail "st"
          intro t n_t
          generalize hh : upd _ t _ = H_t
          have e_t := newEx hh n_t
          have h_t := newAt hh
          clear hh
          exact q1 _ _ e_t ⟨b, hb, .inl ⟨_, _, rfl, rfl, t, rfl, h_t⟩⟩
        have pr := siftG_all (by rw [hl3, List.length_map, llb]) hp3
        obtain ⟨wb, ew, rwb⟩ := paired_refs pr
        rw [ew] at hD3
        rw [filterMap_map (f := fun r : Quad => (r.2.1, r.2.1 + r.2.2.1))] at rwb
        clear pr ew hp3
        repeat fail "st"
        refine ⟨D2, wb, ln.map fun r : Quad => (r.2.1, r.2.1 + r.2.2.1), SqL.of hD3, rfl, rwb, fun p m => ?_, by rw [List.length_map]; omega, fun tj ss H4 e4 st sc ins lss => ?_⟩
        · obtain ⟨r, mr, rfl⟩ := List.mem_map.mp m
          have := ((pm' r).mp ((inn r).mp mr).1).1.1
          show r.2.1 < r.2.1 + r.2.2.1
          omega
        have hfd4 := e4 _ _ (e3 _ _ hfdG)
        have hal4 := e4 _ _ (e3 _ _ hDG)
        repeat fail "st"
        intro nt n_nt
        generalize hh : upd _ nt _ = H_nt
        have e_nt := newEx hh n_nt
        have h_nt := newAt hh
        clear hh
        have hfd5 := e_nt _ _ hfd4
        have e35 := e3.trans (e4.trans e_nt)
        have lds := Paired.length rd
        have lcs : i < es.length := (List.getElem?_eq_some_iff.mp htop).1
        refine ⟨fd, _, _, rfl, rfl, hfd5, Nat.lt_of_lt_of_le (show _ < 6000 by rw [List.length_map]; omega) (by decide), ?_⟩
        refine ⟨D, lb, ln, _, _, ds ++ [nt], cs ++ [(top, bot, ss)], mm, rfl, But.trans (bt2.up e35) (But.mut But.refl), Ex.mut (eD2.trans e35) nfd0, by rw [upd_same, List.map_append]; rfl, ?_, fun z => nfD z.symm, ?_, ?_, by rw [List.length_append, lc]; rfl, ml, lln, sw2, fun j c hj => ?_⟩
        · rw [upd_ne (fun z => nfD z.symm)]
          exact e_nt _ _ hal4
        · exact bds_snoc ⟨tj, by rw [upd_ne (ne_of_none hfd4 n_nt).symm]; exact h_nt, spT_but (But.mut But.refl) hfd5 (st.up e_nt)⟩ (bds_but (But.mut But.refl) hfd5 (rd2.up e35))
        · exact boxes_but (But.mut But.refl) hfd5 (rbG.up e35)
        · by_cases k : j < cs.length
          · rw [List.getElem?_append_left k] at hj
            exact good j c hj
          · rw [List.getElem?_append_right (by omega)] at hj
            have z : j - cs.length = 0 := by
              cases y : j - cs.length with
              | zero => rfl
              | succ n => rw [y] at hj; simp at hj
            rw [z] at hj
            have ej : j = i := by omega
            have ec : (top, bot, ss) = c := Option.some.inj hj
            subst ec ej
            refine ⟨top, bot, htop, hbot, rfl, rfl, sc, fun x => ?_, ?_⟩
            · show InS ss x ↔ _
              rw [ins]
              constructor
              · rintro ⟨p, m, h⟩
                obtain ⟨r, mr, rfl⟩ := List.mem_map.mp m
                obtain ⟨m1, m2⟩ := (inn r).mp mr
                exact ⟨r, m1, m2, h⟩
              · rintro ⟨r, m1, m2, h⟩
                exact ⟨_, List.mem_map.mpr ⟨r, (inn r).mpr ⟨m1, m2⟩, rfl⟩, h⟩
            · show ss.length ≤ _
              rw [List.length_map] at lss
              omega
    · rintro _ H' ⟨al, las, ls, y6, y7, ds, cs, kk, rfl, bt, eD, hfd, hal, nfa, rd, rl, lc, lk, ll, sw, good⟩
      rw [List.length_map] at lc
      have pos : ∀ r ∈ rs.map boxQ, 0 < r.2.2.1 ∧ 0 < r.2.2.2 := fun r m => by
        obtain ⟨q, mq, rfl⟩ := List.mem_map.mp m
        exact ((pm' q).mp mq).1
      have swp := sweep (ws := rs.map boxQ) (es := es) (cs := cs) pos asc (fun z => (mes' z).trans ⟨fun ⟨r, m, h⟩ => ⟨_, List.mem_map.mpr ⟨r, m, rfl⟩, h⟩, fun ⟨b, m, h⟩ => by obtain ⟨r, mr, rfl⟩ := List.mem_map.mp m; exact ⟨r, mr, h⟩⟩) (by
        cases es with
        | nil => exact .inr ⟨rfl, List.length_eq_zero_iff.mp lc⟩
        | cons e es => exact .inl (by rw [lc]; rfl)) (fun j c hj => by
        obtain ⟨a, b, h1, h2, h3, h4, h5, h6, _⟩ := good j c hj
        refine ⟨a, b, h1, h2, h3, h4, h5, fun x => (h6 x).trans ⟨fun ⟨r, m, h⟩ => ⟨_, List.mem_map.mpr ⟨r, m, rfl⟩, h⟩, fun ⟨b, m, h⟩ => ?_⟩⟩
        obtain ⟨r, mr, rfl⟩ := List.mem_map.mp m
        exact ⟨r, mr, h⟩)
      obtain ⟨g1, g2, g3⟩ := swp
      repeat fail "st"
      have lcs : cs.length ≤ 2 * bs.length := by omega
      refine ⟨fd, ds, cs, SqL.of hfd, rfl, rd, g1, g2, by omega, fun t bb H4 e4 bt4 bc pt lb vw => ?_⟩
      refine q t bb H4 (eD.trans e4) bt4 ⟨bc, fun x y => (pt x y).trans ((g3 x y).trans ?_), by omega, fun c m => ?_⟩
      · constructor
        · rintro ⟨r, m, h⟩
          obtain ⟨p, mp, rfl⟩ := List.mem_map.mp m
          exact ⟨_, ((pm' p).mp mp).2, h⟩
        · rintro ⟨b, m, h⟩
          obtain ⟨b1, b2, b3, b4⟩ := h
          refine ⟨boxQ (b.2.1, b.1, b.2.2.1, b.2.2.2), List.mem_map.mpr ⟨(b.2.1, b.1, b.2.2.1, b.2.2.2), (pm' (b.2.1, b.1, b.2.2.1, b.2.2.2)).mpr ⟨⟨?_, ?_⟩, m⟩, rfl⟩, b1, b2, b3, b4⟩
          · dsimp only at b1 b2 ⊢
            omega
          · dsimp only at b3 b4 ⊢
            omega
      · obtain ⟨d, m, e⟩ := vw c m
        obtain ⟨j, hj⟩ := List.getElem?_of_mem m
        obtain ⟨_, _, _, _, _, _, _, _, h⟩ := good j d hj
        rw [e]
        omega
end

end K14
namespace K14
open PySem PySem.Spec PyProof.Rows L2 Evl Lw
section
variable {P : Program} {w : World} {K : PySem.W.Frag} {mg : Str → Option Value} {base : Heap}
theorem c_is_integer (T : Txt K mg) : Cl P w K mg base CX0 1 "is_integer" s_is_integer ["value"] spInteger := by
  refine cl_of (k := 0) T.d_is_integer sc_is_integer (fun vs H Q E h => ?_) (fun f cdv A outer s H vs Q E hr h => ?_)
  · obtain ⟨v, n, rfl, _⟩ := h
    rfl
  · obtain ⟨v, n, rfl, k, q⟩ := h
    have nd := sc_is_integer.nd
    refine ⟨_, (pss_one (ps_ret (pe_and (pe_callB (call_isi) (by rfl) T.b_isinstance bt_isinstance (pa_cons (pv 0) (pa_cons (pe_bltn (v := .ty "int") (by rfl) T.b_int bt_int rfl) pa_nil))) (pe_one (pe_not (pe_callB (call_isi) (by rfl) T.b_isinstance bt_isinstance (pa_cons (pv 0) (pa_cons (pe_bltn (v := .ty "bool") (by rfl) T.b_bool bt_bool rfl) pa_nil)))))))), ?_⟩
    repeat fail "st"
    refine ifB (fun h => ?_) (fun h => ?_)
    · repeat fail "st"
      rw [int_yes k h] at q
      exact q
    · rw [int_no h] at q
      exact q
theorem c_is_between (T : Txt K mg) : Cl P w K mg base CX0 2 "is_between" s_is_between ["value", "low", "high"] spBetween := by
  refine cl_of (k := 1) T.d_is_between sc_is_between (fun vs H Q E h => ?_) (fun f cdv A outer s H vs Q E hr h => ?_)
  · obtain ⟨v, lo, hi, n, rfl, _⟩ := h
    rfl
  · obtain ⟨v, lo, hi, n, rfl, k, q⟩ := h
    have nd := sc_is_between.nd
    refine ⟨_, (pss_one (ps_ret (pe_and (Lw.pe_cl (c_is_integer T) b_is_integer hr (by decide) (by rfl) pass0 (pa_cons (pv 0) pa_nil)) (pe_one (pe_chain op_le op_le (pv 1) (pv 0) (pv 2)))))), ?_⟩
    repeat fail "st"
    refine ifB (fun h => ?_) (fun h => ?_)
    · obtain ⟨i, rfl⟩ := k.of_int h
      repeat fail "st"
      refine ifD (fun h1 => ?_) (fun h1 => ?_)
      · repeat fail "st"
        rw [inB, decide_eq_true h1] at q
        exact q
      · rw [inB, decide_eq_false h1] at q
        exact q
    · rw [inB_no k h] at q
      exact q
theorem c_is_number (T : Txt K mg) : Cl P w K mg base CX0 3 "is_number" s_is_number ["value"] spNumber := by
  refine cl_of (k := 2) T.d_is_number sc_is_number (fun vs H Q E h => ?_) (fun f cdv A outer s H vs Q E hr h => ?_)
  · obtain ⟨v, n, rfl, _⟩ := h
    rfl
  · obtain ⟨v, n, rfl, k, q⟩ := h
    have nd := sc_is_number.nd
    refine ⟨_, (pss_one (ps_ret (Lw.pe_cl (c_is_between T) b_is_between hr (by decide) (by rfl) pass0 (pa_cons (pv 0) (pa_cons (pe_un un_neg (C8.pe_gc (by rfl) T.g_MOST_SIZE)) (pa_cons (C8.pe_gc (by rfl) T.g_MOST_SIZE) pa_nil)))))), ?_⟩
    repeat fail "st"
    exact q
theorem c_is_rect (T : Txt K mg) : Cl P w K mg base CX0 4 "is_rect" s_is_rect ["value"] spRect := by
  refine cl_of (k := 3) T.d_is_rect sc_is_rect (fun vs H Q E h => ?_) (fun f cdv A outer s H vs Q E hr h => ?_)
  · obtain ⟨v, n, rfl, _⟩ := h
    rfl
  · obtain ⟨v, n, rfl, k, q⟩ := h
    have nd := sc_is_rect.nd
    refine ⟨_, (pss_cons (ps_if (PW.pt (pw_or (pt_not (pt_val (pe_callB (call_isi) (by rfl) T.b_isinstance bt_isinstance (pa_cons (pv 0) (pa_cons (pe_bltn (v := .ty "tuple") (by rfl) T.b_tuple bt_tuple rfl) pa_nil))))) (pw_or (pt_cmpR op_ne (pe_callB (call_len) (by rfl) T.b_len bt_len (pa_cons (pv 0) pa_nil)) pe_int (nomark _)) (pw_or (pt_not (pt_val (Lw.pe_cl (c_is_number T) b_is_number hr (by decide) (by rfl) pass0 (pa_cons (pe_ix ix_seq (pv 0) pe_int (fun _ _ => rfl)) pa_nil)))) (pw_or1 (pt_not (pt_val (Lw.pe_cl (c_is_number T) b_is_number hr (by decide) (by rfl) pass0 (pa_cons (pe_ix ix_seq (pv 0) pe_int (fun _ _ => rfl)) pa_nil))))))))) (pss_one (ps_ret pe_bl)) pss_nil)
      (pss_one (ps_ret (pe_and (Lw.pe_cl (c_is_between T) b_is_between hr (by decide) (by rfl) pass0 (pa_cons (pe_ix ix_seq (pv 0) pe_int (fun _ _ => rfl)) (pa_cons pe_int (pa_cons (C8.pe_gc (by rfl) T.g_MOST_SIZE) pa_nil)))) (pe_one (Lw.pe_cl (c_is_between T) b_is_between hr (by decide) (by rfl) pass0 (pa_cons (pe_ix ix_seq (pv 0) pe_int (fun _ _ => rfl)) (pa_cons pe_int (pa_cons (C8.pe_gc (by rfl) T.g_MOST_SIZE) pa_nil))))))))), ?_⟩
    cases k with
    | other k h =>
      repeat fail "st"
      refine ifB (fun h => ?_) (fun h1 => ?_)
      · exact q
      · rw [isK_ne h (by decide)] at h1
        cases h1
    | tup h ks =>
      repeat fail "st"
      refine ifN (fun hl => ?_) (fun hl => ?_)
      · rw [rectL_len (fun z => hl (lenN.mpr z))] at q
        exact q
      · obtain ⟨a, b, c, d, rfl⟩ := four (lenN.mp hl)
        obtain ⟨na, ka⟩ := ks a (by simp)
        obtain ⟨nb, kb⟩ := ks b (by simp)
        obtain ⟨nc, kc⟩ := ks c (by simp)
        obtain ⟨ne, ke⟩ := ks d (by simp)
        repeat fail "st"
        refine ifNt (fun ha => ?_) (fun ha => ?_)
        · rw [show rectL [a, b, c, d] = false by simp [rectL, ha]] at q
          exact q
        repeat fail "st"
        refine ifNt (fun hb => ?_) (fun hb => ?_)
        · rw [show rectL [a, b, c, d] = false by simp [rectL, hb]] at q
          exact q
        repeat fail "st"
        refine ifB (fun hc => ?_) (fun hc => ?_)
        · repeat fail "st"
          rw [show rectL [a, b, c, d] = Lw.inB 0 1000000000000 d by simp [rectL, ha, hb, hc]] at q
          exact q
        · rw [show rectL [a, b, c, d] = false by simp [rectL, hc]] at q
          exact q
end

end K14
namespace K14
open PySem PySem.Spec PyProof.Rows L2 Evl Lw
section
variable {P : Program} {w : World} {K : PySem.W.Frag} {mg : Str → Option Value} {base : Heap}
def spCkRect : Sp := fun vs H Q _ => ∃ q b, BoxAt H q b ∧ vs = [.ref q] ∧ GoodBox b ∧ Q .non H
theorem c_check_rect (T : Txt K mg) : Cl P w K mg base CX0 5 "check_rect" s_check_rect ["value"] spCkRect := by
  refine cl_of (k := 4) T.d_check_rect sc_check_rect (fun vs H Q E h => ?_) (fun f cdv A outer s H vs Q E hr h => ?_)
  · obtain ⟨r, b, _, rfl, _⟩ := h
    rfl
  · obtain ⟨r, b, hb, rfl, hg, q⟩ := h
    have nd := sc_check_rect.nd
    refine ⟨_, (pss_one (ps_if (pt_not (pt_val (Lw.pe_cl (c_is_rect T) b_is_rect hr (by decide) (by rfl) pass0 (pa_cons (pv 0) pa_nil)))) (pss_one Lw.ps_dead) pss_nil)), ?_⟩
    repeat fail "st"
    refine ⟨_, _, rfl, .tup hb (fun x hx => by (repeat (rcases List.mem_cons.mp hx with rfl | hx; exact ⟨_, .int _⟩)); cases hx), ?_⟩
    rw [rectL_good hg]
    repeat fail "st"
    exact q
end

end K14
namespace K14
open PySem PySem.Spec PyProof.Rows L2 Evl Lw
section
variable {P : Program} {w : World} {K : PySem.W.Frag} {mg : Str → Option Value} {base : Heap} {C : Addr}
/-- the rectangles of bands -/
def rectsB (cs : List Band) : List Box := cs.flatMap fun b => b.2.2.map fun s => (s.1, b.1, s.2 - s.1, b.2.1 - b.1)
theorem rectsB_app {a b : List Band} : rectsB (a ++ b) = rectsB a ++ rectsB b := List.flatMap_append
theorem rectsB_one {b : Band} : rectsB [b] = b.2.2.map fun s => (s.1, b.1, s.2 - s.1, b.2.1 - b.1) := List.append_nil _
/-- how many points the rectangles of bands have -/
def areasB (cs : List Band) : List Int := cs.flatMap fun b => b.2.2.map fun s => (b.2.1 - b.1) * (s.2 - s.1)
theorem areasB_app {a b : List Band} : areasB (a ++ b) = areasB a ++ areasB b := List.flatMap_append
theorem areasB_one {b : Band} : areasB [b] = b.2.2.map fun s => (b.2.1 - b.1) * (s.2 - s.1) := List.append_nil _
theorem areasB_len : ∀ {cs : List Band}, (areasB cs).length = (rectsB cs).length
  | [] => rfl
  | b :: cs => by
    have h := areasB_len (cs := cs)
    show (areasB ([b] ++ cs)).length = (rectsB ([b] ++ cs)).length
    rw [areasB_app, rectsB_app, areasB_one, rectsB_one, List.length_append, List.length_append, h, List.length_map, List.length_map]
theorem sum_mul {c : Int} {ss : List Span} : (ss.map fun s => c * (s.2 - s.1)).sum = c * (ss.map fun s => s.2 - s.1).sum := by
  induction ss with
  | nil => simp
  | cons s ss ih => rw [List.map_cons, List.map_cons, List.sum_cons, List.sum_cons, ih, Int.mul_add]
theorem areasB_sum : ∀ {cs : List Band}, (areasB cs).sum = countB cs
  | [] => rfl
  | b :: cs => by
    show (areasB ([b] ++ cs)).sum = _
    rw [areasB_app, areasB_one, List.sum_append, areasB_sum, sum_mul]
    rfl
/-- a region in the heap -/
def RegAt (K : PySem.W.Frag) (C : Addr) (H : Hp) (x : Addr) (cs : List Band) : Prop := ∃ dx t, H x = some (.ins C dx [("bands", .ref t)]) ∧ BdT K H t cs
theorem BdT.up {H H' : Hp} {t : Addr} {bs : List Band} (e : Ex H H') (h : BdT K H t bs) : BdT K H' t bs := let ⟨qs, a, b⟩ := h; ⟨qs, ex_t e a, b.up e⟩
theorem RegAt.up {H H' : Hp} {x : Addr} {cs : List Band} (e : Ex H H') (h : RegAt K C H x cs) : RegAt K C H' x cs := let ⟨dx, t, a, b⟩ := h; ⟨dx, t, e _ _ a, b.up e⟩
/-- no tuple stands there -/
def NoT (H : Hp) (a : Addr) : Prop := (∀ xs, H a ≠ some (.tup xs)) ∧ ∀ o u, H a ≠ some (.frz o u)
theorem noT_ins {H : Hp} {a dx C : Addr} {fs : List (Str × V)} (h : H a = some (.ins C dx fs)) : NoT H a := ⟨(fun xs e => by rw [h] at e; cases e), (fun o u e => by rw [h] at e; cases e)⟩
theorem noT_lst {H : Hp} {a : Addr} {xs : List V} (h : H a = some (.lst xs)) : NoT H a := ⟨(fun xs e => by rw [h] at e; cases e), (fun o u e => by rw [h] at e; cases e)⟩
theorem rows_butX {H H' : Hp} {a : Addr} (e : But a H H') (n : NoT H a) : ∀ {qs : List Addr} {ps : List (Int × Int)}, Rows H qs ps → Rows H' qs ps
  | _, _, .nil => .nil
  | _, _, .cons h t => .cons (e _ _ (fun z => n.1 _ (z ▸ h)) h) (rows_butX e n t)
theorem boxes_butX {H H' : Hp} {a : Addr} (e : But a H H') (n : NoT H a) : ∀ {qs : List Addr} {ps : List Box}, Boxes H qs ps → Boxes H' qs ps
  | _, _, .nil => .nil
  | _, _, .cons h t => .cons (e _ _ (fun z => n.1 _ (z ▸ h)) h) (boxes_butX e n t)
theorem sqT_butX {H H' : Hp} {a t : Addr} {ys : List V} (e : But a H H') (n : NoT H a) (h : SqT K H t ys) : SqT K H' t ys := by
  rcases h with (h | ⟨o, h⟩) | h
  · exact .inl (.inl (e _ _ (fun z => n.1 _ (z ▸ h)) h))
  · exact .inl (.inr ⟨o, e _ _ (fun z => n.2 _ _ (z ▸ h)) h⟩)
  · exact .inr h
theorem spT_butX {H H' : Hp} {a t : Addr} {ss : List Span} (e : But a H H') (n : NoT H a) (h : SpT K H t ss) : SpT K H' t ss := let ⟨qs, x, y⟩ := h; ⟨qs, sqT_butX e n x, rows_butX e n y⟩
theorem bd_butX {H H' : Hp} {a y : Addr} {b : Band} (e : But a H H') (n : NoT H a) (h : BdAt K H y b) : BdAt K H' y b := let ⟨t, x, z⟩ := h; ⟨t, e _ _ (fun m => n.1 _ (m ▸ x)) x, spT_butX e n z⟩
theorem bds_butX {H H' : Hp} {a : Addr} (e : But a H H') (n : NoT H a) : ∀ {qs : List Addr} {bs : List Band}, Bds K H qs bs → Bds K H' qs bs
  | _, _, .nil => .nil
  | _, _, .cons h t => .cons (bd_butX e n h) (bds_butX e n t)
theorem bdT_butX {H H' : Hp} {a t : Addr} {cs : List Band} (e : But a H H') (n : NoT H a) (h : BdT K H t cs) : BdT K H' t cs := let ⟨qs, x, y⟩ := h; ⟨qs, sqT_butX e n x, bds_butX e n y⟩
theorem bdT_set {H : Hp} {x dx t : Addr} {fs gs : List (Str × V)} {cs : List Band} (hx : H x = some (.ins C dx fs)) (h : BdT K H t cs) : BdT K (upd H x (.ins C dx gs)) t cs := bdT_butX (But.mut But.refl) (noT_ins hx) h
def spRects (K : PySem.W.Frag) (C : Addr) : Sp := fun vs H Q _ => ∃ x cs, RegAt K C H x cs ∧ vs = [.ref x] ∧ (rectsB cs).length ≤ 5000 ∧ ∀ t js H', Ex H H' → H' t = some (.tup (js.map V.ref)) → Boxes H' js (rectsB cs) → Q (.ref t) H'
def spInitR (K : PySem.W.Frag) (C : Addr) : Sp := fun vs H Q _ => ∃ x dx, H x = some (.ins C dx []) ∧
  ((∃ pp js bs, vs = [.ref x, .non, .ref pp] ∧ H pp = some (.tup (js.map V.ref)) ∧ Boxes H js bs ∧ bs.length ≤ 2000 ∧ (∀ b ∈ bs, GoodBox b) ∧ ∀ H' t cs, Ex H H' → BdT K H' t cs → BandsFor bs cs → Q .non (upd H' x (.ins C dx [("bands", .ref t)]))) ∨
   ∃ t pp, vs = [.ref x, .ref t, .ref pp] ∧ H pp = some (.tup []) ∧ Q .non (upd H x (.ins C dx [("bands", .ref t)])))
theorem c_Region___init__ (T : Txt K mg) (cM : Own_Region K mg C) : Lw.DefR P w K mg base CX0 6 C "bands" (spInitR K C) := by
  refine defR_of (k := 5) cM.ini sc_Region___init__ bi_Region___init__ (fun f cdv A outer s H vs Q E hr h => ?_)
  obtain ⟨x, dx, hx, h⟩ := h
  have nd := sc_Region___init__.nd
  refine ⟨_, (pss_cons (ps_for PassesOwn.never rfl (pi_tup (pv 2)) (pg_name (i := 3) nd rfl (Or.inl rfl)) (pss_one (ps_expr (Lw.pe_cl (c_check_rect T) b_check_rect hr (by decide) (by rfl) pass0 (pa_cons (pv 3) pa_nil)))))
      (pss_one (ps_fld (pv 0) (pe_ifExp (pt_cmpR op_isN (pv 1) pe_non (nomark _)) (Lw.pe_cl (c_bands_of T) b_bands_of hr (by decide) (by rfl) pass0 (pa_cons (pv 2) pa_nil)) (pv 1)) rfl))), ?_⟩
  rcases h with ⟨pp, js, bs, rfl, hp, rj, len, good, q⟩ | ⟨t, pp, rfl, hp, q⟩
  · repeat fail "st"
    refine for_tup (xs := js.map V.ref) (fun i σ H' => ∃ y, σ = [some (.ref x), some .non, some (.ref pp), y] ∧ H' = H) ⟨_, rfl, rfl⟩ ?_ ?_ ?_
    · rintro i _ _ _ ⟨y, rfl, rfl⟩
      exact SqT.of hp
    · rintro i v _ _ hv ⟨y, rfl, rfl⟩
      obtain ⟨a, b, rfl, hb, ba⟩ := boxes_at rj hv
      repeat fail "st"
      exact ⟨a, b, ba, rfl, good b (List.mem_of_getElem? hb), _, rfl, rfl⟩
    · rintro _ _ ⟨y, rfl, rfl⟩
      repeat fail "st"
      refine ⟨pp, js, bs, SqT.of hp, rfl, rj, len, fun t cs H' e bt bf => ?_⟩
      repeat fail "st"
      refine ⟨_, _, _, _, rfl, e _ _ hx, cM.ow.cls, cM.ow.no, by decide, ?_⟩
      exact q H' t cs e bt bf
  · repeat fail "st"
    refine for_tup (xs := []) (fun i σ H' => ∃ y, σ = [some (.ref x), some (.ref t), some (.ref pp), y] ∧ H' = H) ⟨_, rfl, rfl⟩ ?_ ?_ ?_
    · rintro i _ _ _ ⟨y, rfl, rfl⟩
      exact SqT.of hp
    · rintro i v _ _ hv ⟨y, rfl, rfl⟩
      simp at hv
    · rintro _ _ ⟨y, rfl, rfl⟩
      repeat fail "st"
      refine ⟨_, _, _, _, rfl, hx, cM.ow.cls, cM.ow.no, by decide, ?_⟩
      exact q
/-- a region made of rectangles -/
theorem reg_made {H : Hp} {x dx pp : Addr} {js : List Addr} {bs : List Box} {Q : VK} {E : XK} (rj : Boxes H js bs) (len : bs.length ≤ 2000) (good : ∀ b ∈ bs, GoodBox b) (hx : H x = none) (hd : H dx = none) (ne : dx ≠ x) (hp : upd (upd H dx (.own x)) x (.ins C dx []) pp = none)
    (q : ∀ H' cs, Ex H H' → RegAt K C H' x cs → BandsFor bs cs → Q .non H') : spInitR K C [.ref x, .non, .ref pp] (upd (upd (upd H dx (.own x)) x (.ins C dx [])) pp (.tup (js.map V.ref))) Q E := by
  have npx : x ≠ pp := fun z => by rw [← z, upd_same] at hp; cases hp
  have ex : Ex H (upd (upd (upd H dx (.own x)) x (.ins C dx [])) pp (.tup (js.map V.ref))) := fun b u hb => by
    have n1 : b ≠ x := ne_of_none hb hx
    have n2 : b ≠ dx := ne_of_none hb hd
    have n3 : b ≠ pp := fun z => by rw [← z, upd_ne n1, upd_ne n2, hb] at hp; cases hp
    rw [upd_ne n3, upd_ne n1, upd_ne n2]
    exact hb
  refine ⟨x, dx, by rw [upd_ne npx, upd_same], .inl ⟨pp, js, bs, rfl, upd_same, rj.up ex, len, good, fun H' t cs e bt bf => ?_⟩⟩
  have eH : Ex H (upd H' x (.ins C dx [("bands", .ref t)])) := fun b u hb => by
    rw [upd_ne (ne_of_none hb hx)]
    exact e _ _ (ex _ _ hb)
  have hx' : H' x = some (.ins C dx []) := e _ _ (by rw [upd_ne npx, upd_same])
  exact q _ cs eH ⟨dx, t, upd_same, bdT_set hx' bt⟩ bf
theorem reg_bands {H : Hp} {x dx pp t : Addr} {cs : List Band} {Q : VK} {E : XK} (bt : BdT K H t cs) (hx : H x = none) (hd : H dx = none) (ne : dx ≠ x) (hp : upd (upd H dx (.own x)) x (.ins C dx []) pp = none)
    (q : ∀ H', Ex H H' → RegAt K C H' x cs → Q .non H') : spInitR K C [.ref x, .ref t, .ref pp] (upd (upd (upd H dx (.own x)) x (.ins C dx [])) pp (.tup [])) Q E := by
  have npx : x ≠ pp := fun z => by rw [← z, upd_same] at hp; cases hp
  have ex : Ex H (upd (upd (upd H dx (.own x)) x (.ins C dx [])) pp (.tup [])) := fun b u hb => by
    have n1 : b ≠ x := ne_of_none hb hx
    have n2 : b ≠ dx := ne_of_none hb hd
    have n3 : b ≠ pp := fun z => by rw [← z, upd_ne n1, upd_ne n2, hb] at hp; cases hp
    rw [upd_ne n3, upd_ne n1, upd_ne n2]
    exact hb
  have hx1 : (upd (upd (upd H dx (.own x)) x (.ins C dx [])) pp (.tup [])) x = some (.ins C dx []) := by rw [upd_ne npx, upd_same]
  refine ⟨x, dx, hx1, .inr ⟨t, pp, rfl, upd_same, ?_⟩⟩
  have eH : Ex H (upd (upd (upd (upd H dx (.own x)) x (.ins C dx [])) pp (.tup [])) x (.ins C dx [("bands", .ref t)])) := fun b u hb => by
    rw [upd_ne (ne_of_none hb hx)]
    exact ex _ _ hb
  exact q _ eH ⟨dx, t, upd_same, bdT_set hx1 (bt.up ex)⟩
theorem boxes_app {H : Hp} {qs ks : List Addr} {bs cs : List Box} (a : Boxes H qs bs) (b : Boxes H ks cs) : Boxes H (qs ++ ks) (bs ++ cs) := by
  induction a with
  | nil => exact b
  | cons h _ ih => exact .cons h ih
theorem c_Region_rects (T : Txt K mg) (cM : Own_Region K mg C) : Lw.DefP P w K mg base CX0 1 C "rects" "Region.rects" s_Region_rects ["self"] (spRects K C) := by
  refine defP_of (k := 0) cM.p_rects sc_Region_rects (fun vs H Q E h => ?_) (fun f cdv A outer s H vs Q E hr h => ?_)
  · obtain ⟨x, cs, _, rfl, _⟩ := h
    rfl
  · obtain ⟨x, cs, ⟨dx, t, hx, qs, ht, rq⟩, rfl, len, q⟩ := h
    have nd := sc_Region_rects.nd
    refine ⟨_, (pss_one (ps_ret (pe_callTy (call_tuple_of) (by rfl) T.b_tuple bt_tuple (pa_cons (pe_lc2 (own := [("top", 1), ("bottom", 2), ("spans", 3), ("left", 4), ("right", 5)]) (vs1 := [4, 5]) (g := gTup K 3 (gCons (gName 1) (gCons (gName 2) (gCons (gName 3) (gNil))))) (g1 := gTup K 2 (gCons (gName 4) (gCons (gName 5) (gNil)))) (tt := tYes) (tt1 := tYes) rfl nd (pi_tup (pe_fld (pv 0) rfl)) (L2.blkOk_by (N := N_Region_rects) (sc := defScope s_Region_rects) (by decide +kernel)) (by decide) (fun _ _ _ _ _ => (pg_tup rfl (pgs_cons (pg_name (i := 1) nd rfl (Or.inl rfl)) (pgs_cons (pg_name (i := 2) nd rfl (Or.inl rfl)) (pgs_cons (pg_name (i := 3) nd rfl (Or.inl rfl)) pgs_nil))))) (fun _ _ _ _ _ => pts_nil) (fun _ _ _ _ _ => (pi_tup (pv 3) : PI _ _ _ (iTup K _))) (fun _ _ _ _ _ => (pg_tup rfl (pgs_cons (pg_name (i := 4) nd rfl (Or.inl rfl)) (pgs_cons (pg_name (i := 5) nd rfl (Or.inl rfl)) pgs_nil)))) (fun _ _ _ _ _ => pts_nil) (fun _ _ _ _ _ => (pe_tup (pa_cons (pv 4) (pa_cons (pv 1) (pa_cons (pe_op op_sub (pv 5) (pv 4)) (pa_cons (pe_op op_sub (pv 2) (pv 1)) pa_nil))))))) pa_nil)))), ?_⟩
    rw [show L2.start N_Region_rects [V.ref x] = [some (V.ref x), none, none, none, none, none] from rfl]
    repeat fail "st"
    refine ⟨_, _, _, _, _, rfl, hx, cM.ow.cls, cM.ow.no, rfl, ?_⟩
    repeat fail "st"
    intro D hD
    have lq := Paired.length rq
    have hT := fun H' (e : Ex H H') => ex_t e ht
    refine go_tup (xs := qs.map V.ref) (fun i H' => Ex H H' ∧ ∃ js, H' D = some (.lst (js.map V.ref)) ∧ Boxes H' js (rectsB (cs.take i))) ⟨Ex.new hD, [], upd_same, .nil⟩ (fun i H' _ h => hT H' h.1) ?_ ?_
    · rintro i v H1 hv ⟨e1, js, hD1, rj⟩
      obtain ⟨a, b, rfl, hb, tb, ha, sb⟩ := bds_at (Bds.up e1 rq) hv
      obtain ⟨ks, htb, rk⟩ := sb
      have lk := Paired.length rk
      have ib := (List.getElem?_eq_some_iff.mp hb).1
      have lrb : (rectsB (cs.take i)).length + b.2.2.length ≤ 5000 := by
        have h1 : (rectsB (cs.take (i + 1))).length ≤ (rectsB cs).length := by
          conv => rhs; rw [← List.take_append_drop (i + 1) cs, rectsB_app, List.length_append]
          exact Nat.le_add_right _ _
        rw [List.take_add_one, hb, Option.toList_some, rectsB_app, List.length_append, rectsB_one, List.length_map] at h1
        omega
      repeat fail "st"
      have nDl := noT_lst hD1
      refine go_tup (xs := ks.map V.ref) (fun j H' => Ex H H' ∧ But D H1 H' ∧ ∃ js, H' D = some (.lst (js.map V.ref)) ∧ Boxes H' js (rectsB (cs.take i) ++ (b.2.2.take j).map fun s => (s.1, b.1, s.2 - s.1, b.2.1 - b.1))) ⟨e1, But.refl, js, hD1, by rw [List.take_zero, List.map_nil, List.append_nil]; exact rj⟩ (fun j H' _ h => sqT_butX h.2.1 nDl htb) ?_ ?_
      · rintro j v H2 hv ⟨e2, bt, js, hD2, rj⟩
        obtain ⟨y, s, rfl, _, hs, rp⟩ := rows_at' (rows_butX bt nDl rk) hv
        have rp' : H2 y = some (.tup [.int s.1, .int s.2]) := rp
        have lj := Paired.length rj
        have is := (List.getElem?_eq_some_iff.mp hs).1
        dsimp (config := { proj := false }) only [wipe, List.set, List.map]
        repeat fail "st"
        intro t n_t
        generalize hh : upd _ t _ = H_t
        have e_t := newEx hh n_t
        have h_t := newAt hh
        clear hh
        refine ⟨_, e_t _ _ hD2, Nat.lt_of_lt_of_le (show _ < 6000 by rw [List.length_map, lj, List.length_append, List.length_map, List.length_take]; omega) (by decide), Ex.mut (e2.trans e_t) hD, But.trans (bt.up e_t) (But.mut But.refl), js ++ [t], by rw [upd_same, List.map_append]; rfl, ?_⟩
        rw [List.take_add_one, hs, Option.toList_some, List.map_append, ← List.append_assoc]
        exact boxes_butX (But.mut But.refl) (noT_lst (e_t _ _ hD2)) (prd_snoc (R := BoxAt H_t) h_t (rj.up e_t))
      · rintro H2 ⟨e2, bt, js, hD2, rj⟩
        refine ⟨e2, js, hD2, ?_⟩
        rw [List.length_map, lk, List.take_length] at rj
        rw [List.take_add_one, hb, Option.toList_some, rectsB_app, rectsB_one]
        exact rj
    · rintro H1 ⟨e1, js, hD1, rj⟩
      rw [List.length_map, lq, List.take_length] at rj
      repeat fail "st"
      refine ⟨D, _, rfl, .inl ⟨SqL.of hD1, fun t nt => ?_⟩⟩
      exact q t js _ (e1.trans (Ex.new nt)) upd_same (rj.up (Ex.new nt))
/-- all points of bands lie near 0 -/
def NearB (cs : List Band) : Prop := ∀ x y, PtB cs x y → (-(2 ^ 62) < x ∧ x < 2 ^ 62) ∧ -(2 ^ 62) < y ∧ y < 2 ^ 62
theorem near_at {cs : List Band} (bc : BandC cs) (n : NearB cs) {b : Band} (m : b ∈ cs) : (-(2 ^ 62) < b.1 ∧ b.2.1 ≤ 2 ^ 62 ∧ b.1 < b.2.1) ∧ ∀ s ∈ b.2.2, -(2 ^ 62) < s.1 ∧ s.2 ≤ 2 ^ 62 ∧ s.1 < s.2 := by
  have lb := bc.1.1 b m
  obtain ⟨sc, ne⟩ := bc.2 b m
  have ls : ∀ s ∈ b.2.2, s.1 < s.2 := fun s ms => sc.1 (asRun s) (List.mem_map.mpr ⟨s, ms, rfl⟩)
  have pt : ∀ s ∈ b.2.2, ∀ x y, s.1 ≤ x → x < s.2 → b.1 ≤ y → y < b.2.1 → PtB cs x y := fun s ms x y h1 h2 h3 h4 => ⟨_, ⟨b, m, h3, h4, rfl⟩, s, ms, h1, h2⟩
  have one : ∀ s ∈ b.2.2, -(2 ^ 62) < s.1 ∧ s.2 ≤ 2 ^ 62 ∧ -(2 ^ 62) < b.1 ∧ b.2.1 ≤ 2 ^ 62 := fun s ms => by
    have l := ls s ms
    have h1 := n _ _ (pt s ms s.1 b.1 (Int.le_refl _) l (Int.le_refl _) lb)
    have h2 := n _ _ (pt s ms (s.2 - 1) (b.2.1 - 1) (by omega) (by omega) (by omega) (by omega))
    omega
  refine ⟨?_, fun s ms => ⟨(one s ms).1, (one s ms).2.1, ls s ms⟩⟩
  cases e : b.2.2 with
  | nil => exact absurd e ne
  | cons s ss =>
    have h := one s (by rw [e]; exact List.mem_cons_self)
    exact ⟨h.2.2.1, h.2.2.2, lb⟩
def spPoints (K : PySem.W.Frag) (C : Addr) : Sp := fun vs H Q _ => ∃ x cs, RegAt K C H x cs ∧ vs = [.ref x] ∧ (rectsB cs).length ≤ 5000 ∧ BandC cs ∧ NearB cs ∧ ∀ H', Ex H H' → Q (.int (countB cs)) H'
theorem c_Region_points (T : Txt K mg) (cM : Own_Region K mg C) : Lw.DefP P w K mg base CX0 1 C "points" "Region.points" s_Region_points ["self"] (spPoints K C) := by
  refine defP_of (k := 0) cM.p_points sc_Region_points (fun vs H Q E h => ?_) (fun f cdv A outer s H vs Q E hr h => ?_)
  · obtain ⟨x, cs, _, rfl, _⟩ := h
    rfl
  · obtain ⟨x, cs, ⟨dx, t, hx, qs, ht, rq⟩, rfl, len, bc, near, q⟩ := h
    have nd := sc_Region_points.nd
    refine ⟨_, (pss_one (ps_ret (pe_callB (cr_sum rfl) (by rfl) T.b_sum bt_sum (pa_cons (pe_lc2 (own := [("top", 1), ("bottom", 2), ("spans", 3), ("left", 4), ("right", 5)]) (vs1 := [4, 5]) (g := gTup K 3 (gCons (gName 1) (gCons (gName 2) (gCons (gName 3) (gNil))))) (g1 := gTup K 2 (gCons (gName 4) (gCons (gName 5) (gNil)))) (tt := tYes) (tt1 := tYes) rfl nd (pi_tup (pe_fld (pv 0) rfl)) (L2.blkOk_by (N := N_Region_points) (sc := defScope s_Region_points) (by decide +kernel)) (by decide) (fun _ _ _ _ _ => (pg_tup rfl (pgs_cons (pg_name (i := 1) nd rfl (Or.inl rfl)) (pgs_cons (pg_name (i := 2) nd rfl (Or.inl rfl)) (pgs_cons (pg_name (i := 3) nd rfl (Or.inl rfl)) pgs_nil))))) (fun _ _ _ _ _ => pts_nil) (fun _ _ _ _ _ => (pi_tup (pv 3) : PI _ _ _ (iTup K _))) (fun _ _ _ _ _ => (pg_tup rfl (pgs_cons (pg_name (i := 4) nd rfl (Or.inl rfl)) (pgs_cons (pg_name (i := 5) nd rfl (Or.inl rfl)) pgs_nil)))) (fun _ _ _ _ _ => pts_nil) (fun _ _ _ _ _ => (pe_op op_mul (pe_op op_sub (pv 2) (pv 1)) (pe_op op_sub (pv 5) (pv 4))))) pa_nil)))), ?_⟩
    rw [show L2.start N_Region_points [V.ref x] = [some (V.ref x), none, none, none, none, none] from rfl]
    repeat fail "st"
    refine ⟨_, _, _, _, _, rfl, hx, cM.ow.cls, cM.ow.no, rfl, ?_⟩
    repeat fail "st"
    intro D hD
    have lq := Paired.length rq
    have hT := fun H' (e : Ex H H') => ex_t e ht
    refine go_tup (xs := qs.map V.ref) (fun i H' => Ex H H' ∧ ∃ ns : List Int, H' D = some (.lst (ns.map V.int)) ∧ ns = areasB (cs.take i)) ⟨Ex.new hD, [], upd_same, rfl⟩ (fun i H' _ h => hT H' h.1) ?_ ?_
    · rintro i v H1 hv ⟨e1, ns, hD1, rfl⟩
      obtain ⟨a, b, rfl, hb, tb, ha, sb⟩ := bds_at (Bds.up e1 rq) hv
      obtain ⟨ks, htb, rk⟩ := sb
      have lk := Paired.length rk
      have nb := near_at bc near (List.mem_of_getElem? hb)
      have lrb : (areasB (cs.take i)).length + b.2.2.length ≤ 5000 := by
        have h1 : (rectsB (cs.take (i + 1))).length ≤ (rectsB cs).length := by
          conv => rhs; rw [← List.take_append_drop (i + 1) cs, rectsB_app, List.length_append]
          exact Nat.le_add_right _ _
        rw [List.take_add_one, hb, Option.toList_some, rectsB_app, List.length_append, rectsB_one, List.length_map] at h1
        rw [areasB_len]
        omega
      repeat fail "st"
      have nDl := noT_lst hD1
      refine go_tup (xs := ks.map V.ref) (fun j H' => Ex H H' ∧ But D H1 H' ∧ ∃ ns : List Int, H' D = some (.lst (ns.map V.int)) ∧ ns = areasB (cs.take i) ++ (b.2.2.take j).map fun s => (b.2.1 - b.1) * (s.2 - s.1)) ⟨e1, But.refl, _, hD1, by rw [List.take_zero, List.map_nil, List.append_nil]⟩ (fun j H' _ h => sqT_butX h.2.1 nDl htb) ?_ ?_
      · rintro j v H2 hv ⟨e2, bt, ns, hD2, ens⟩
        obtain ⟨y, s, rfl, _, hs, rp⟩ := rows_at' (rows_butX bt nDl rk) hv
        have rp' : H2 y = some (.tup [.int s.1, .int s.2]) := rp
        have is := (List.getElem?_eq_some_iff.mp hs).1
        have ns2 := nb.2 s (List.mem_of_getElem? hs)
        have nb1 := nb.1
        have ln : ns.length ≤ 5000 := by
          rw [ens, List.length_append, List.length_map, List.length_take]
          omega
        dsimp (config := { proj := false }) only [wipe, List.set, List.map]
        repeat fail "st"
        refine ⟨_, hD2, Nat.lt_of_lt_of_le (show _ < 6000 by rw [List.length_map]; omega) (by decide), Ex.mut e2 hD, But.trans bt (But.mut But.refl), ns ++ [(b.2.1 - b.1) * (s.2 - s.1)], by rw [upd_same, List.map_append]; rfl, ?_⟩
        rw [ens, List.take_add_one, hs, Option.toList_some, List.map_append, ← List.append_assoc]
        rfl
      · rintro H2 ⟨e2, bt, ns, hD2, ens⟩
        refine ⟨e2, ns, hD2, ?_⟩
        rw [List.length_map, lk, List.take_length] at ens
        rw [List.take_add_one, hb, Option.toList_some, areasB_app, areasB_one]
        exact ens
    · rintro H1 ⟨e1, ns, hD1, ens⟩
      rw [List.length_map, lq, List.take_length] at ens
      repeat fail "st"
      rw [ens, areasB_sum]
      exact q _ e1
end

end K14
namespace K14
open PySem PySem.Spec PyProof.Rows L2 Evl Lw
section
variable {P : Program} {w : World} {K : PySem.W.Frag} {mg : Str → Option Value} {base : Heap} {C : Addr}
def spLen (K : PySem.W.Frag) (C : Addr) : Sp := fun vs H Q _ => ∃ x cs, RegAt K C H x cs ∧ vs = [.ref x] ∧ (rectsB cs).length ≤ 5000 ∧ ∀ H', Ex H H' → Q (.int ((rectsB cs).length : Nat)) H'
theorem c_Region___len__ (T : Txt K mg) (cM : Own_Region K mg C) : Lw.DefM P w K mg base CX0 3 C "__len__" "Region.__len__" s_Region___len__ ["self"] (spLen K C) := by
  refine defM_of (k := 2) cM.m___len__ sc_Region___len__ (fun vs H Q E h => ?_) (fun f cdv A outer s H vs Q E hr h => ?_)
  · obtain ⟨x, cs, _, rfl, _⟩ := h
    rfl
  · obtain ⟨x, cs, hR, rfl, len, q⟩ := h
    have nd := sc_Region___len__.nd
    refine ⟨_, (pss_one (ps_ret (pe_callB (call_len) (by rfl) T.b_len bt_len (pa_cons (Lw.pe_prp (pv 0) cM.ow.cls (c_Region_rects T cM) bm_Region_rects hr (by decide) pass0) pa_nil)))), ?_⟩
    repeat fail "st"
    obtain ⟨dx, t, hx, bt⟩ := hR
    refine ⟨x, dx, _, rfl, hx, x, cs, ⟨dx, t, hx, bt⟩, rfl, len, fun t js H' e ht rj => ?_⟩
    have lj := Paired.length rj
    repeat fail "st"
    rw [List.length_map, lj]
    exact q _ e
instance {ss : List Span} {x : Int} : Decidable (InS ss x) := by unfold InS; infer_instance
def pairL : List V → Option (Int × Int)
  | [.int a, .int b] => some (a, b)
  | _ => none
/-- a value that is looked at as a point -/
inductive PtV (H : Hp) : V → Option (Int × Int) → Prop
  | other {v : V} {n : String} (k : Kd H v n) (h : n ≠ "tuple") : PtV H v none
  | tup {a : Addr} {xs : List V} (h : H a = some (.tup xs)) (ks : ∀ x ∈ xs, ∃ n, Kd H x n) : PtV H (.ref a) (pairL xs)
theorem PtV.up {H H' : Hp} {v : V} {o : Option (Int × Int)} (e : Ex H H') (h : PtV H v o) : PtV H' v o := by
  cases h with
  | other k h => exact .other (k.up e) h
  | tup h ks => exact .tup (e _ _ h) fun x m => let ⟨n, k⟩ := ks x m; ⟨n, k.up e⟩
def spContains (K : PySem.W.Frag) (C : Addr) : Sp := fun vs H Q _ => ∃ x v o cs, RegAt K C H x cs ∧ PtV H v o ∧ vs = [.ref x, v] ∧ cs.length ≤ 5000 ∧ (∀ c ∈ cs, c.2.2.length ≤ 5000) ∧ ∀ b H', Ex H H' → (b = true ↔ ∃ p, o = some p ∧ PtB cs p.1 p.2) → Q (.bl b) H'
theorem two {xs : List V} (h : xs.length = 2) : ∃ a b, xs = [a, b] := match xs, h with
  | [a, b], _ => ⟨a, b, rfl⟩
theorem pairL_len {xs : List V} (h : xs.length ≠ 2) : pairL xs = none := by
  unfold pairL
  split
  · exact absurd rfl h
  · rfl
theorem not_int {H : Hp} {v : V} {n : String} (k : Kd H v n) (h : (n == "int") = false) (i : Int) : v ≠ .int i := fun e => by
  subst e
  cases k
  exact absurd h (by decide)
set_option maxHeartbeats 8000000 in
theorem c_Region___contains__ (T : Txt K mg) (cM : Own_Region K mg C) : Lw.DefM P w K mg base CX0 2 C "__contains__" "Region.__contains__" s_Region___contains__ ["self", "value"] (spContains K C) := by
  refine defM_of (k := 1) cM.m___contains__ sc_Region___contains__ (fun vs H Q E h => ?_) (fun f cdv A outer s H vs Q E hr h => ?_)
  · obtain ⟨x, v, o, cs, _, _, rfl, _⟩ := h
    rfl
  · obtain ⟨x, v, o, cs, ⟨dx, t, hx, qs, ht, rq⟩, k, rfl, len, lens, q⟩ := h
    have nd := sc_Region___contains__.nd
    refine ⟨_, (pss_cons (ps_if (PW.pt (pw_or (pt_not (pt_val (pe_callB (call_isi) (by rfl) T.b_isinstance bt_isinstance (pa_cons (pv 1) (pa_cons (pe_bltn (v := .ty "tuple") (by rfl) T.b_tuple bt_tuple rfl) pa_nil))))) (pw_or (pt_cmpR op_ne (pe_callB (call_len) (by rfl) T.b_len bt_len (pa_cons (pv 1) pa_nil)) pe_int (nomark _)) (pw_or (pt_not (pt_val (Lw.pe_cl (c_is_integer T) b_is_integer hr (by decide) (by rfl) pass0 (pa_cons (pe_ix ix_seq (pv 1) pe_int (fun _ _ => rfl)) pa_nil)))) (pw_or1 (pt_not (pt_val (Lw.pe_cl (c_is_integer T) b_is_integer hr (by decide) (by rfl) pass0 (pa_cons (pe_ix ix_seq (pv 1) pe_int (fun _ _ => rfl)) pa_nil))))))))) (pss_one (ps_ret pe_bl)) pss_nil)
      (pss_cons (ps_asg (pv 1) (pg_tup rfl (pgs_cons (pg_name (i := 2) nd rfl (Or.inr rfl)) (pgs_cons (pg_name (i := 3) nd rfl (Or.inr rfl)) pgs_nil))))
      (pss_one (ps_ret (pe_callB (cr_any rfl) (by rfl) T.b_any bt_any (pa_cons (pe_lc (own := [("top", 4), ("bottom", 5), ("spans", 6)]) (g := gTup K 3 (gCons (gName 4) (gCons (gName 5) (gCons (gName 6) (gNil))))) (tt := tYes) rfl nd (pi_tup (pe_fld (pv 0) rfl)) (L2.blkOk_by (N := N_Region___contains__) (sc := defScope s_Region___contains__) (by decide +kernel)) (fun _ _ _ _ _ => (pg_tup rfl (pgs_cons (pg_name (i := 4) nd rfl (Or.inl rfl)) (pgs_cons (pg_name (i := 5) nd rfl (Or.inl rfl)) (pgs_cons (pg_name (i := 6) nd rfl (Or.inl rfl)) pgs_nil))))) (fun _ _ _ _ _ => pts_nil) (fun _ _ _ _ _ => (pe_and (pe_chain op_le op_lt (pv 4) (pv 3) (pv 5)) (pe_one (Lw.pe_cl (c_covers T) b_covers hr (by decide) (by rfl) pass0 (pa_cons (pv 6) (pa_cons (pv 2) pa_nil))))))) pa_nil)))))), ?_⟩
    rw [show L2.start N_Region___contains__ [V.ref x, v] = [some (V.ref x), some v, none, none, none, none, none] from rfl]
    cases k with
    | other k h =>
      repeat fail "st"
      refine ifB (fun h => ?_) (fun h1 => ?_)
      · exact q _ _ (Ex.refl _) ⟨(fun z => nomatch z), fun ⟨p, z, _⟩ => nomatch z⟩
      · rw [isK_ne h (by decide)] at h1
        cases h1
    | tup h ks =>
      have no : pairL _ = none → Q (.bl false) H := fun e => q false H (Ex.refl _) ⟨(fun z => nomatch z), fun ⟨p, z, _⟩ => by rw [e] at z; cases z⟩
      repeat fail "st"
      refine ifN (fun hl => ?_) (fun hl => ?_)
      · exact no (pairL_len (fun z => hl (lenN.mpr z)))
      · obtain ⟨a, b, rfl⟩ := two (lenN.mp hl)
        obtain ⟨na, ka⟩ := ks a (by simp)
        obtain ⟨nb, kb⟩ := ks b (by simp)
        repeat fail "st"
        refine ifNt (fun ha => ?_) (fun ha => ?_)
        · refine no ?_
          unfold pairL
          split
          · rename_i e
            injection e with e _
            exact absurd e (not_int ka ha _)
          · rfl
        repeat fail "st"
        refine ifNt (fun hb => ?_) (fun hb => ?_)
        · refine no ?_
          unfold pairL
          split
          · rename_i e
            injection e with _ e
            injection e with e _
            exact absurd e (not_int kb hb _)
          · rfl
        obtain ⟨u, rfl⟩ := ka.of_int ha
        obtain ⟨v, rfl⟩ := kb.of_int hb
        repeat fail "st"
        refine ⟨_, _, _, _, _, rfl, hx, cM.ow.cls, cM.ow.no, rfl, ?_⟩
        dsimp (config := { proj := false }) only [List.set]
        repeat fail "st"
        intro D hD
        have lq := Paired.length rq
        refine lcT (All fun i w _ => ∃ c, cs[i]? = some c ∧ ∃ b, w = V.bl b ∧ (b = true ↔ (c.1 ≤ v ∧ v < c.2.1) ∧ InS c.2.2 u)) (all_mono fun _ _ _ _ _ h => h) hD ht (by rw [List.length_map]; omega) (fun i w hi H1 e Q1 Q2 q1 q2 => ?_) (fun H1 os e hl1 hD1 hp1 => ?_)
        · obtain ⟨y, c, rfl, hc, tc, hy, sp⟩ := bds_at (Bds.up e rq) hi
          dsimp (config := { proj := false }) only [List.set, wipe, List.map]
          repeat fail "st"
          refine ifD (fun c1 => ?_) (fun c1 => ?_)
          · repeat fail "st"
            refine ifD (fun c2 => ?_) (fun c2 => ?_)
            · repeat fail "st"
              have c3 := c2
              refine ⟨tc, c.2.2, u, sp, rfl, lens c (List.mem_of_getElem? hc), fun b H2 e2 hb => ?_⟩
              exact q1 _ _ e2 ⟨_, rfl, c, hc, b, rfl, hb.trans ⟨fun z => ⟨⟨c1, c3⟩, z⟩, fun z => z.2⟩⟩
            · exact q1 _ _ (Ex.refl _) ⟨_, rfl, c, hc, false, rfl, ⟨(fun z => nomatch z), fun z => absurd z.1.2 c2⟩⟩
          · repeat fail "st"
            exact q1 _ _ (Ex.refl _) ⟨_, rfl, c, hc, false, rfl, ⟨(fun z => nomatch z), fun z => absurd z.1.1 c1⟩⟩
        · obtain ⟨ys, ey, ly, hy⟩ := All.end hp1
          have ev : ys = cs.map fun c : Band => V.bl (decide ((c.1 ≤ v ∧ v < c.2.1) ∧ InS c.2.2 u)) := vals_map (by rw [ly, hl1, List.length_map, lq]) (fun i y h => by
            obtain ⟨c, hc, b, e, hb⟩ := hy i y h
            refine ⟨c, hc, e.trans (congrArg V.bl ?_)⟩
            rw [Bool.eq_iff_iff, hb, decide_eq_true_eq])
          rw [ey, ev] at hD1
          repeat fail "st"
          refine ⟨D, cs.map fun c : Band => decide ((c.1 ≤ v ∧ v < c.2.1) ∧ InS c.2.2 u), rfl, SqL.of (by rw [List.map_map]; exact hD1), ?_⟩
          refine q _ _ e ?_
          rw [List.any_map, List.any_eq_true]
          constructor
          · rintro ⟨c, m, h⟩
            have h := of_decide_eq_true h
            exact ⟨(u, v), rfl, _, ⟨c, m, h.1.1, h.1.2, rfl⟩, h.2⟩
          · rintro ⟨p, e, w, ⟨c, m, h1, h2, rfl⟩, h3⟩
            cases e
            exact ⟨c, m, decide_eq_true ⟨⟨h1, h2⟩, h3⟩⟩
def spOr (K : PySem.W.Frag) (C : Addr) : Sp := fun vs H Q _ => ∃ x y cs ds, RegAt K C H x cs ∧ RegAt K C H y ds ∧ vs = [.ref x, .ref y] ∧ (rectsB cs).length + (rectsB ds).length ≤ 2000 ∧ ∀ z es H', Ex H H' → RegAt K C H' z es → BandsFor (rectsB cs ++ rectsB ds) es → Q (.ref z) H'
theorem c_Region___or__ (T : Txt K mg) (cM : Own_Region K mg C) : Lw.DefM P w K mg base CX0 8 C "__or__" "Region.__or__" s_Region___or__ ["self", "other"] (spOr K C) := by
  refine defM_of (k := 7) cM.m___or__ sc_Region___or__ (fun vs H Q E h => ?_) (fun f cdv A outer s H vs Q E hr h => ?_)
  · obtain ⟨x, y, cs, ds, _, _, rfl, _⟩ := h
    rfl
  · obtain ⟨x, y, cs, ds, hR, hS, rfl, len, q⟩ := h
    have nd := sc_Region___or__.nd
    refine ⟨_, (pss_one (ps_ret (Lw.pe_mkRK (c_Region___init__ T cM) cM.ow.nm hr (by decide) (by rfl) pass0 (pk_cons (Lw.pe_cl (c_bands_of T) b_bands_of hr (by decide) (by rfl) pass0 (pa_cons (pe_op op_catA (Lw.pe_prp (pv 0) cM.ow.cls (c_Region_rects T cM) bm_Region_rects hr (by decide) pass0) (Lw.pe_prp (pv 1) cM.ow.cls (c_Region_rects T cM) bm_Region_rects hr (by decide) pass0)) pa_nil)) pk_nil)))), ?_⟩
    repeat fail "st"
    obtain ⟨dx, t, hx, bt⟩ := hR
    obtain ⟨dy, u, hy, bu⟩ := hS
    refine ⟨x, dx, _, rfl, hx, x, cs, ⟨dx, t, hx, bt⟩, rfl, by omega, fun tx jx H1 e1 ht1 rj1 => ?_⟩
    repeat fail "st"
    refine ⟨y, dy, _, rfl, e1 _ _ hy, y, ds, ⟨dy, u, e1 _ _ hy, bu.up e1⟩, rfl, by omega, fun ty jy H2 e2 ht2 rj2 => ?_⟩
    have l1 := Paired.length rj1
    have l2 := Paired.length rj2
    repeat fail "st"
    refine catA (SqT.of (e2 _ _ ht1)) (SqT.of ht2) (Nat.le_trans (show _ ≤ 2000 by rw [List.length_map, List.length_map]; omega) (by decide)) fun tt H3 e3 hT3 => ?_
    repeat fail "st"
    refine ⟨tt, jx ++ jy, rectsB cs ++ rectsB ds, by rw [List.map_append]; exact hT3, rfl, boxes_app ((rj1.up e2).up e3) (rj2.up e3), by rw [List.length_append]; omega, fun tb es H4 e4 bt4 bf => ?_⟩
    repeat fail "st"
    intro x' dx' pp h1 h2 h3 h4
    refine reg_bands bt4 h1 h2 h3 h4 fun H5 e5 rr => ⟨rfl, ?_⟩
    exact q x' es H5 (e1.trans (e2.trans (e3.trans (e4.trans e5)))) rr bf
end

end K14
namespace K14
open PySem PySem.Spec PyProof.Rows L2 Evl Lw
section
variable {P : Program} {w : World} {K : PySem.W.Frag} {mg : Str → Option Value} {base : Heap} {C : Addr}
theorem rects_le {cs : List Band} (h : BandC cs) : ((rectsB cs).length : Int) ≤ countB cs := by
  rw [← areasB_sum, ← areasB_len]
  have pos : ∀ a ∈ areasB cs, 1 ≤ a := fun a m => by
    obtain ⟨b, mb, m⟩ := List.mem_flatMap.mp m
    obtain ⟨s, ms, rfl⟩ := List.mem_map.mp m
    have h1 := h.1.1 b mb
    have h2 := (h.2 b mb).1.1 (asRun s) (List.mem_map.mpr ⟨s, ms, rfl⟩)
    have h2 : s.1 < s.2 := h2
    have := Int.mul_pos (a := b.2.1 - b.1) (b := s.2 - s.1) (by omega) (by omega)
    omega
  generalize areasB cs = l at pos
  induction l with
  | nil => simp
  | cons a l ih =>
    have h1 := pos a List.mem_cons_self
    have h2 := ih fun b m => pos b (List.mem_cons_of_mem _ m)
    rw [List.sum_cons, List.length_cons]
    omega
def datX (b : Box) : PyData := .tuple [.int b.1, .int b.2.1, .int b.2.2.1, .int b.2.2.2]
theorem dp_boxes {H : Hp} {qs : List Addr} {bs : List Box} (r : Boxes H qs bs) : DpAll K H (qs.map V.ref) (bs.map datX) := by
  induction r with
  | nil => exact .nil
  | cons h t ih => exact .cons (.tup (SqT.of h) (.cons (.int _) (.cons (.int _) (.cons (.int _) (.cons (.int _) .nil))))) ih
theorem lay_boxes : ∀ bs : List Box, PyData.canLayAll0 (bs.map datX) = true ∧ PyData.depthAll (bs.map datX) ≤ 1
  | [] => by simp [PyData.canLayAll0, PyData.depthAll]
  | b :: bs => by
    obtain ⟨h1, h2⟩ := lay_boxes bs
    rw [List.map_cons, PyData.canLayAll0, PyData.depthAll, h1]
    exact ⟨by simp [datX, PyData.canLay0, PyData.canLayAll0], Nat.max_le.mpr ⟨by simp [datX, PyData.depth, PyData.depthAll], h2⟩⟩
theorem shaped_boxes (bs : List Box) : SeqAt.shaped (.list (bs.map datX)) = true := by
  unfold SeqAt.shaped
  rw [PyData.canLay0, PyData.depth, (lay_boxes bs).1, decide_eq_true (by have := (lay_boxes bs).2; omega)]
  rfl
theorem shaped_boxt (bs : List Box) : SeqAt.shaped (.tuple (bs.map datX)) = true := by
  unfold SeqAt.shaped
  rw [PyData.canLay0, PyData.depth, (lay_boxes bs).1, decide_eq_true (by have := (lay_boxes bs).2; omega)]
  rfl
theorem eqv_box (a b : Box) : PyData.eqv (datX a) (datX b) = decide (a = b) := by
  obtain ⟨a1, a2, a3, a4⟩ := a
  obtain ⟨b1, b2, b3, b4⟩ := b
  rw [Bool.eq_iff_iff]
  simp [datX, PyData.eqv, PyData.eqvAll, Prod.ext_iff]
theorem eqv_boxes : ∀ {as bs : List Box}, PyData.eqvAll (as.map datX) (bs.map datX) = decide (as = bs)
  | [], [] => by simp [PyData.eqvAll]
  | [], q :: qs => by simp [PyData.eqvAll]
  | p :: ps, [] => by simp [PyData.eqvAll]
  | p :: ps, q :: qs => by
    rw [List.map_cons, List.map_cons, PyData.eqvAll, eqv_box, eqv_boxes (as := ps) (bs := qs), Bool.eq_iff_iff]
    simp
theorem eq_boxt {H : Hp} {a b : Addr} {qs ks : List Addr} {bs cs : List Box} {Q : VK} (ha : SqT K H a (qs.map V.ref)) (hb : SqT K H b (ks.map V.ref)) (ra : Boxes H qs bs) (rb : Boxes H ks cs) (q : Q (.bl (decide (bs = cs))) H) : rEqD K (.ref a) (.ref b) H Q := by
  refine ⟨_, _, .tup ha (dp_boxes ra), .tup hb (dp_boxes rb), shaped_boxt _, shaped_boxt _, ?_⟩
  rw [PyData.eqv, eqv_boxes]
  exact q
theorem ne_boxt {H : Hp} {a b : Addr} {qs ks : List Addr} {bs cs : List Box} {Q : VK} (ha : SqT K H a (qs.map V.ref)) (hb : SqT K H b (ks.map V.ref)) (ra : Boxes H qs bs) (rb : Boxes H ks cs) (q : Q (.bl (!decide (bs = cs))) H) : rNeD K (.ref a) (.ref b) H Q := by
  refine ⟨_, _, .tup ha (dp_boxes ra), .tup hb (dp_boxes rb), shaped_boxt _, shaped_boxt _, ?_⟩
  rw [PyData.eqv, eqv_boxes]
  exact q
theorem eq_nilX {H : Hp} {a l : Addr} {qs : List Addr} {bs : List Box} {Q : VK} (hl : SqL K H a (qs.map V.ref)) (r : Boxes H qs bs) (h : H l = some (.lst [])) (q : Q (.bl (decide (bs = []))) H) : rEqD K (.ref a) (.ref l) H Q := by
  refine ⟨_, _, .lst hl (dp_boxes r), .lst (SqL.of h) .nil, shaped_boxes bs, by decide +kernel, ?_⟩
  have e : PyData.eqv (.list (bs.map datX)) (.list []) = decide (bs = []) := by
    cases bs with
    | nil => rfl
    | cons p ps => simp [PyData.eqv, PyData.eqvAll]
  rw [e]
  exact q
theorem bf_small {bs : List Box} {cs : List Band} (bf : BandsFor bs cs) (h : bs.length ≤ 2000) : cs.length ≤ 5000 ∧ ∀ c ∈ cs, c.2.2.length ≤ 5000 := by
  obtain ⟨_, _, h1, h2⟩ := bf
  exact ⟨by omega, fun c m => by have := h2 c m; omega⟩
theorem boxes_of {P : Box → Prop} {H : Hp} : ∀ {ys : List V}, (∀ y ∈ ys, ∃ t b, y = V.ref t ∧ BoxAt H t b ∧ P b) → ∃ js bs, ys = js.map V.ref ∧ Boxes H js bs ∧ ∀ b ∈ bs, P b
  | [], _ => ⟨[], [], rfl, .nil, fun _ m => by cases m⟩
  | y :: ys, h => by
    obtain ⟨t, b, rfl, h1, h2⟩ := h _ List.mem_cons_self
    obtain ⟨js, bs, rfl, r, p⟩ := boxes_of fun y m => h y (List.mem_cons_of_mem _ m)
    refine ⟨t :: js, b :: bs, rfl, .cons h1 r, fun c m => ?_⟩
    rcases List.mem_cons.mp m with rfl | m
    · exact h2
    · exact p c m
theorem rectsB_nil {cs : List Band} {ps : List (Int × Int)} (bc : BandC cs) (m : ∀ x y, PtB cs x y ↔ (x, y) ∈ ps) : (rectsB cs).length = 0 ↔ ps = [] := by
  constructor
  · intro h
    refine List.eq_nil_iff_forall_not_mem.mpr fun p mp => ?_
    obtain ⟨v, ⟨b, mb, _, _, rfl⟩, s, ms, _⟩ := (m p.1 p.2).mpr mp
    have : (s.1, b.1, s.2 - s.1, b.2.1 - b.1) ∈ rectsB cs := List.mem_flatMap.mpr ⟨b, mb, List.mem_map.mpr ⟨s, ms, rfl⟩⟩
    rw [List.length_eq_zero_iff.mp h] at this
    cases this
  · rintro rfl
    have h := rects_le bc
    have c := count_pts (ps := []) bc .nil fun p => by rw [m]
    simp at c
    omega
theorem eq_bands {bs : List Box} {cs ds : List Band} {ps : List (Int × Int)} (bf : BandC cs ∧ ∀ x y, PtB cs x y ↔ ∃ b ∈ bs, InBox b (x, y)) (bc : BandC ds) (m : ∀ x y, PtB ds x y ↔ (x, y) ∈ ps) (mp : ∀ p, p ∈ ps ↔ ∃ b ∈ bs, InBox b p) : cs = ds :=
  band_uniq bf.1 bc fun x y => (bf.2 x y).trans ((mp (x, y)).symm.trans (m x y).symm)
theorem rectsB_in {cs : List Band} {x y : Int} : (∃ b ∈ rectsB cs, InBox b (x, y)) ↔ PtB cs x y := by
  constructor
  · rintro ⟨r, m, h⟩
    obtain ⟨b, mb, m⟩ := List.mem_flatMap.mp m
    obtain ⟨s, ms, rfl⟩ := List.mem_map.mp m
    unfold InBox at h
    dsimp only at h
    exact ⟨_, ⟨b, mb, by omega, by omega, rfl⟩, s, ms, by omega, by omega⟩
  · rintro ⟨v, ⟨b, mb, h1, h2, rfl⟩, s, ms, h3, h4⟩
    refine ⟨_, List.mem_flatMap.mpr ⟨b, mb, List.mem_map.mpr ⟨s, ms, rfl⟩⟩, ?_⟩
    unfold InBox
    dsimp only
    omega
def cellsX (b : Box) : List (Int × Int) := (upto b.2.1 (b.2.1 + b.2.2.2)).flatMap fun y => (upto b.1 (b.1 + b.2.2.1)).map fun x => (x, y)
theorem mem_cellsX {b : Box} {p : Int × Int} : p ∈ cellsX b ↔ InBox b p := by
  unfold cellsX InBox
  rw [List.mem_flatMap]
  constructor
  · rintro ⟨y, my, m⟩
    obtain ⟨x, mx, rfl⟩ := List.mem_map.mp m
    have h1 := mem_upto.mp my
    have h2 := mem_upto.mp mx
    dsimp only
    omega
  · rintro ⟨h1, h2, h3, h4⟩
    exact ⟨p.2, mem_upto.mpr ⟨h3, h4⟩, List.mem_map.mpr ⟨p.1, mem_upto.mpr ⟨h1, h2⟩, rfl⟩⟩
theorem len_cellsX {b : Box} (hw : 0 ≤ b.2.2.1) (hh : 0 ≤ b.2.2.2) : ((cellsX b).length : Int) = b.2.2.2 * b.2.2.1 := by
  unfold cellsX
  rw [len_rows, len_upto (by omega), len_upto (by omega)]
  congr 1 <;> omega
/-- few points, few rectangles -/
theorem rects_few {cs : List Band} {bs : List Box} {n : Nat} (bc : BandC cs) (m : ∀ x y, PtB cs x y ↔ ∃ b ∈ bs, InBox b (x, y)) (h : ∀ b ∈ bs, 0 ≤ b.2.2.1 ∧ 0 ≤ b.2.2.2 ∧ b.2.2.2 * b.2.2.1 ≤ n) : (rectsB cs).length ≤ n * bs.length := by
  have l1 : (bs.flatMap cellsX).length ≤ n * bs.length := by
    clear m
    induction bs with
    | nil => simp
    | cons b bs ih =>
      obtain ⟨h1, h2, h3⟩ := h b List.mem_cons_self
      have i := ih fun c m => h c (List.mem_cons_of_mem _ m)
      have l := len_cellsX h1 h2
      rw [List.flatMap_cons, List.length_append, List.length_cons, Nat.mul_succ]
      omega
  have l2 := nodup_len (nodup_cellsB bc) (qs := bs.flatMap cellsX) fun p mp => by
    obtain ⟨b, mb, hb⟩ := (m p.1 p.2).mp (mem_cellsB.mp mp)
    exact List.mem_flatMap.mpr ⟨b, mb, mem_cellsX.mpr hb⟩
  have l3 := len_cellsB bc
  have l4 := rects_le bc
  omega
theorem paired_of_at {α β : Type} {R : α → β → Prop} : ∀ {xs : List α} {ys : List β}, xs.length = ys.length → (∀ (i : Nat) x, xs[i]? = some x → ∃ y, ys[i]? = some y ∧ R x y) → Paired R xs ys
  | [], [], _, _ => .nil
  | [], _ :: _, h, _ => nomatch h
  | _ :: _, [], h, _ => nomatch h
  | x :: xs, y :: ys, l, h => by
    obtain ⟨z, e, r⟩ := h 0 x rfl
    obtain rfl : y = z := Option.some.inj e
    exact .cons r (paired_of_at (Nat.succ.inj l) fun i u e => h (i + 1) u e)
theorem contains_pt {H : Hp} {x t : Addr} {cs : List Band} {a b : Int} {Q : Bool → Hp → Prop} {E : XK} (hR : RegAt K C H x cs) (ht : H t = some (.tup [.int a, .int b])) (l1 : cs.length ≤ 5000) (l2 : ∀ c ∈ cs, c.2.2.length ≤ 5000) (q : ∀ c H', Ex H H' → (c = true ↔ PtB cs a b) → Q c H') :
    ∃ u dx fs, V.ref x = .ref u ∧ H u = some (.ins C dx fs) ∧ spContains K C [.ref x, .ref t] H (fun v H' => ∃ c, v = .bl c ∧ Q c H') E := by
  have hR0 := hR
  obtain ⟨dx, tt, hx, _⟩ := hR0
  refine ⟨x, dx, _, rfl, hx, x, .ref t, some (a, b), cs, hR, .tup ht (fun v m => by (repeat (rcases List.mem_cons.mp m with rfl | m; exact ⟨_, .int _⟩)); cases m), rfl, l1, l2, fun c H' e h => ⟨c, rfl, q c H' e (h.trans ?_)⟩⟩
  exact ⟨fun ⟨p, e, h⟩ => by cases e; exact h, fun h => ⟨_, rfl, h⟩⟩
theorem contains_no {H : Hp} {x : Addr} {v : V} {cs : List Band} {Q : Bool → Hp → Prop} {E : XK} (hR : RegAt K C H x cs) (hv : PtV H v none) (l1 : cs.length ≤ 5000) (l2 : ∀ c ∈ cs, c.2.2.length ≤ 5000) (q : ∀ H', Ex H H' → Q false H') :
    ∃ u dx fs, V.ref x = .ref u ∧ H u = some (.ins C dx fs) ∧ spContains K C [.ref x, v] H (fun w H' => ∃ c, w = .bl c ∧ Q c H') E := by
  have hR0 := hR
  obtain ⟨dx, tt, hx, _⟩ := hR0
  refine ⟨x, dx, _, rfl, hx, x, v, none, cs, hR, hv, rfl, l1, l2, fun c H' e h => ⟨c, rfl, ?_⟩⟩
  have e2 : c = false := by
    cases c with
    | false => rfl
    | true => obtain ⟨p, z, _⟩ := h.mp rfl; cases z
  rw [e2]
  exact q H' e
theorem ptB_dec {c : Bool} {cs : List Band} {ps : List (Int × Int)} {a b : Int} (h : c = true ↔ PtB cs a b) (m : ∀ x y, PtB cs x y ↔ (x, y) ∈ ps) : c = decide ((a, b) ∈ ps) := by
  rw [Bool.eq_iff_iff, h, m, decide_eq_true_eq]
end

end K14
namespace K14
open PySem PySem.Spec PyProof.Rows L2 Evl Lw
section
variable {P : Program} {w : World} {K : PySem.W.Frag} {mg : Str → Option Value} {base : Heap} {C : Addr}
/-- a test told once -/
theorem split_test {c : TT} {σ : L2.St} {H : Hp} {R : Bool → Hp → Prop} (Pr : Prop) (key : ∀ Q : Bool → Hp → Prop, (Pr → Q true H) → (¬ Pr → Q false H) → c σ H Q) (hT : Pr → R true H) (hF : ¬ Pr → R false H) : c σ H R := key R hT hF
theorem split_val {c : TE} {σ : L2.St} {H : Hp} {R : VK} (Pr : Prop) (key : ∀ Q : VK, (∀ b, (b = true ↔ Pr) → Q (.bl b) H) → c σ H Q) (h : ∀ b, (b = true ↔ Pr) → R (.bl b) H) : c σ H R := key R h
theorem seq_asg {te : TE} {g : TG} {u : TS} {D : Ends} {σ : L2.St} {H : Hp} (h : te σ H fun x H1 => g x σ H1 (u D)) : tSeq (tAsg te g) u D σ H := h
theorem seq_if {c : TT} {t e u : TS} {D : Ends} {σ : L2.St} {H : Hp} (h : c σ H fun b H1 => if b = true then t { D with nx := u D } σ H1 else e { D with nx := u D } σ H1) : tSeq (tIfS c t e) u D σ H := h
theorem the_if {c : TT} {t e : TS} {D : Ends} {σ : L2.St} {H : Hp} (h : c σ H fun b H1 => if b = true then t D σ H1 else e D σ H1) : tIfS c t e D σ H := h
/-- the stretches of a band with an index at a row -/
def atB (bs : List Band) (k : Nat) (y : Int) : List Span := match bs[k]? with
  | some b => if b.1 ≤ y then b.2.2 else []
  | none => []
def spSpansAt (K : PySem.W.Frag) : Sp := fun vs H Q _ => ∃ (t : Addr) (k : Nat) (y : Int) (bs : List Band), BdT K H t bs ∧ vs = [.ref t, .int k, .int y] ∧ ∀ u H', Ex H H' → SpT K H' u (atB bs k y) → Q (.ref u) H'
theorem c_spans_at (T : Txt K mg) : Cl P w K mg base CX0 1 "spans_at" s_spans_at ["bands", "k", "top"] (spSpansAt K) := by
  refine cl_of (k := 0) T.d_spans_at sc_spans_at (fun vs H Q E h => ?_) (fun f cdv A outer s H vs Q E hr h => ?_)
  · obtain ⟨t, k, y, bs, _, rfl, _⟩ := h
    rfl
  · obtain ⟨t, k, y, bs, ⟨qs, ht, rq⟩, rfl, q⟩ := h
    have nd := sc_spans_at.nd
    have lq := Paired.length rq
    refine ⟨_, (pss_one (ps_ret (pe_ifExp (PW.pt (pw_and (pt_cmpR op_lt (pv 1) (pe_callB (call_len) (by rfl) T.b_len bt_len (pa_cons (pv 0) pa_nil)) (nomark _)) (pw_and1 (pt_cmpR op_le (pe_ix ix_seq (pe_ix ix_seq (pv 0) (pv 1) (fun _ _ => rfl)) pe_int (fun _ _ => rfl)) (pv 2) (nomark _))))) (pe_ix ix_seq (pe_ix ix_seq (pv 0) (pv 1) (fun _ _ => rfl)) pe_int (fun _ _ => rfl)) (pe_tup pa_nil)))), ?_⟩
    repeat fail "st"
    have none : atB bs k y = [] → ∀ p, H p = none → Q (.ref p) (upd H p (.tup [])) := fun e p hp => q p _ (Ex.new hp) (by rw [e]; exact ⟨[], SqT.of upd_same, .nil⟩)
    refine ifD (fun c1 => ?_) (fun c1 => ?_)
    · rw [List.length_map, lq] at c1
      have lk : k < bs.length := by omega
      obtain ⟨qa, eqa, tc, hy, sp⟩ := paired_at2 rq (List.getElem?_eq_getElem lk)
      have ixw : ∀ {Q : VK}, Q (.ref qa) H → rIx K (.ref t) (.int (k : Nat)) H Q := fun q => ixT_at (K := K) (j := k) ht rfl (by rw [List.getElem?_map, eqa]; rfl) q
      repeat fail "st"
      refine ixw ?_
      repeat fail "st"
      refine ifD (fun c2 => ?_) (fun c2 => ?_)
      · repeat fail "st"
        refine ixw ?_
        repeat fail "st"
        have e : atB bs k y = bs[k].2.2 := by
          unfold atB
          rw [List.getElem?_eq_getElem lk]
          exact if_pos c2
        exact q tc _ (Ex.refl _) (by rw [e]; exact sp)
      · repeat fail "st"
        refine none ?_
        unfold atB
        rw [List.getElem?_eq_getElem lk]
        exact if_neg c2
    · rw [List.length_map, lq] at c1
      repeat fail "st"
      refine none ?_
      unfold atB
      rw [List.getElem?_eq_none (by omega)]
end

end K14
namespace K14
open PySem PySem.Spec PyProof.Rows L2 Evl Lw
section
variable {P : Program} {w : World} {K : PySem.W.Frag} {mg : Str → Option Value} {base : Heap} {C : Addr}
def spMixS (K : PySem.W.Frag) : Sp := fun vs H Q _ => ∃ (a b : Addr) (ss ts : List Span) (way : Str), SpT K H a ss ∧ SpT K H b ts ∧ vs = [.ref a, .ref b, .str way] ∧ SpanC ss ∧ SpanC ts ∧ ss.length + ts.length ≤ 2000 ∧
  ∀ t us H', Ex H H' → SpT K H' t us → SpanC us → (∀ x, InS us x ↔ InS ss x ∧ (InS ts x ↔ decide (way = "both") = true)) → us.length ≤ 2 * (ss.length + ts.length) → Q (.ref t) H'
set_option maxHeartbeats 8000000 in
theorem c_mixed_spans (T : Txt K mg) : Cl P w K mg base CX0 2 "mixed_spans" s_mixed_spans ["one", "other", "way"] (spMixS K) := by
  refine cl_of (k := 1) T.d_mixed_spans sc_mixed_spans (fun vs H Q E h => ?_) (fun f cdv A outer s H vs Q E hr h => ?_)
  · obtain ⟨a, b, ss, ts, way, _, _, rfl, _⟩ := h
    rfl
  · obtain ⟨a0, b0, ss, ts, way, ⟨qs, ha, rs⟩, ⟨ks, hb, rt⟩, rfl, cs, ct, len, q⟩ := h
    have nd := sc_mixed_spans.nd
    have lq := Paired.length rs
    have lk := Paired.length rt
    refine ⟨_, (pss_cons (ps_set (i := 3) nd rfl (Or.inl rfl) (pe_callB ((Lw.cr_sortSI rfl)) (by rfl) T.b_sorted bt_sorted (pa_cons (pe_callTy (Lw.cr_setI rfl) (by rfl) T.b_set bt_set (pa_cons (pe_op op_cat (pe_lc2 (own := [("span", 11), ("edge", 12)]) (vs1 := [12]) (g := gName 11) (g1 := gName 12) (tt := tYes) (tt1 := tYes) rfl nd (pi_tup (pv 0)) (L2.blkOk_by (N := N_mixed_spans) (sc := defScope s_mixed_spans) (by decide +kernel)) (by decide) (fun _ _ _ _ _ => (pg_name (i := 11) nd rfl (Or.inl rfl))) (fun _ _ _ _ _ => pts_nil) (fun _ _ _ _ _ => (pi_tup (pv 11) : PI _ _ _ (iTup K _))) (fun _ _ _ _ _ => (pg_name (i := 12) nd rfl (Or.inl rfl))) (fun _ _ _ _ _ => pts_nil) (fun _ _ _ _ _ => (pv 12))) (pe_lc2 (own := [("span", 11), ("edge", 12)]) (vs1 := [12]) (g := gName 11) (g1 := gName 12) (tt := tYes) (tt1 := tYes) rfl nd (pi_tup (pv 1)) (L2.blkOk_by (N := N_mixed_spans) (sc := defScope s_mixed_spans) (by decide +kernel)) (by decide) (fun _ _ _ _ _ => (pg_name (i := 11) nd rfl (Or.inl rfl))) (fun _ _ _ _ _ => pts_nil) (fun _ _ _ _ _ => (pi_tup (pv 11) : PI _ _ _ (iTup K _))) (fun _ _ _ _ _ => (pg_name (i := 12) nd rfl (Or.inl rfl))) (fun _ _ _ _ _ => pts_nil) (fun _ _ _ _ _ => (pv 12)))) pa_nil)) pa_nil)))
      (pss_cons (ps_set (i := 4) nd rfl (Or.inl rfl) (pe_lst pa_nil))
      (pss_cons (ps_set (i := 5) nd rfl (Or.inl rfl) pe_int)
      (pss_cons (ps_set (i := 6) nd rfl (Or.inl rfl) pe_int)
      (pss_cons (ps_for PassesOwn.never rfl (RZ.pi_zipA (by rfl) T.b_zip (pa_cons (pv 3) (pa_cons (pe_slice sl_list (pv 3) (po_some pe_int) po_none) pa_nil))) (pg_tup rfl (pgs_cons (pg_name (i := 7) nd rfl (Or.inl rfl)) (pgs_cons (pg_name (i := 8) nd rfl (Or.inl rfl)) pgs_nil))) (pss_cons (ps_while PassesOwn.never (PW.pt (pw_and (pt_cmpR op_lt (pv 5) (pe_callB (call_len) (by rfl) T.b_len bt_len (pa_cons (pv 0) pa_nil)) (nomark _)) (pw_and1 (pt_cmpR op_le (pe_ix ix_seq (pe_ix ix_seq (pv 0) (pv 5) (fun _ _ => rfl)) pe_int (fun _ _ => rfl)) (pv 7) (nomark _))))) (pss_one (ps_aug (i := 5) nd rfl (Or.inl rfl) pe_int ip_add)))
      (pss_cons (ps_while PassesOwn.never (PW.pt (pw_and (pt_cmpR op_lt (pv 6) (pe_callB (call_len) (by rfl) T.b_len bt_len (pa_cons (pv 1) pa_nil)) (nomark _)) (pw_and1 (pt_cmpR op_le (pe_ix ix_seq (pe_ix ix_seq (pv 1) (pv 6) (fun _ _ => rfl)) pe_int (fun _ _ => rfl)) (pv 7) (nomark _))))) (pss_one (ps_aug (i := 6) nd rfl (Or.inl rfl) pe_int ip_add)))
      (pss_cons (ps_set (i := 9) nd rfl (Or.inl rfl) (pe_and (pe_cmpR op_lt (pv 5) (pe_callB (call_len) (by rfl) T.b_len bt_len (pa_cons (pv 0) pa_nil)) (nomark _)) (pe_one (pe_cmpR op_le (pe_ix ix_seq (pe_ix ix_seq (pv 0) (pv 5) (fun _ _ => rfl)) pe_int (fun _ _ => rfl)) (pv 7) (nomark _)))))
      (pss_cons (ps_set (i := 10) nd rfl (Or.inl rfl) (pe_and (pe_cmpR op_lt (pv 6) (pe_callB (call_len) (by rfl) T.b_len bt_len (pa_cons (pv 1) pa_nil)) (nomark _)) (pe_one (pe_cmpR op_le (pe_ix ix_seq (pe_ix ix_seq (pv 1) (pv 6) (fun _ _ => rfl)) pe_int (fun _ _ => rfl)) (pv 7) (nomark _)))))
      (pss_one (ps_if (PW.pt (pw_and (pt_val (pv 9)) (pw_and1 (pt_cmpR op_eq (pv 10) (pe_cmpR op_eq (pv 2) pe_str (nomark _)) (nomark _))))) (pss_one (ps_expr (pe_bm PySem.F.plainAttrs_list PySem.F.slot_list_append PySem.F.type_list_append mt_append (pv 4) (pa_cons (pe_tup (pa_cons (pv 7) (pa_cons (pv 8) pa_nil))) pa_nil)))) pss_nil)))))))
      (pss_one (ps_ret (Lw.pe_cl (c_joined_spans T) b_joined_spans hr (by decide) (by rfl) pass0 (pa_cons (pv 4) pa_nil))))))))), ?_⟩
    rw [show L2.start N_mixed_spans [V.ref a0, V.ref b0, V.str way] = [some (V.ref a0), some (V.ref b0), some (V.str way), none, none, none, none, none, none, none, none, none, none] from rfl]
    repeat fail "st"
    intro D n_D
    refine go_tup (xs := qs.map V.ref) (fun i H' => Ex H H' ∧ ∃ ns : List Int, H' D = some (.lst (ns.map V.int)) ∧ ns = endsS (ss.take i)) ⟨Ex.new n_D, [], upd_same, rfl⟩ (fun i H' _ h => ex_t h.1 ha) ?_ ?_
    · rintro i v Hx hv ⟨e1, ns, hD1, rfl⟩
      obtain ⟨y, s, rfl, _, hs, rp⟩ := rows_at' (rs.up e1) hv
      have rp' : Hx y = some (.tup [.int s.1, .int s.2]) := rp
      have is := (List.getElem?_eq_some_iff.mp hs).1
      have ln : (endsS (ss.take i)).length ≤ 4000 := by rw [endsS_len, List.length_take]; omega
      repeat fail "st"
      have nDl := noT_lst hD1
      refine go_tup (xs := [V.int s.1, .int s.2]) (fun j H' => Ex H H' ∧ But D Hx H' ∧ ∃ ns : List Int, H' D = some (.lst (ns.map V.int)) ∧ ns = endsS (ss.take i) ++ ([s.1, s.2].take j)) ⟨e1, But.refl, _, hD1, by rw [List.take_zero, List.append_nil]⟩ (fun j H' _ h => SqT.of (h.2.1 _ _ (fun z => nDl.1 _ (z ▸ rp')) rp')) ?_ ?_
      · rintro j v H2 hv ⟨e2, bt, ns, hD2, ens⟩
        obtain ⟨z, hz, rfl⟩ : ∃ z : Int, [s.1, s.2][j]? = some z ∧ v = .int z := by
          match j, hv with
          | 0, h => exact ⟨s.1, rfl, (Option.some.inj h).symm⟩
          | 1, h => exact ⟨s.2, rfl, (Option.some.inj h).symm⟩
          | j + 2, h => simp at h
        have lj : j < 2 := (List.getElem?_eq_some_iff.mp hz).1
        have ln2 : ns.length ≤ 4002 := by
          rw [ens, List.length_append, List.length_take]
          omega
        dsimp (config := { proj := false }) only [wipe, List.set, List.map]
        repeat fail "st"
        refine ⟨_, hD2, Nat.lt_of_lt_of_le (show _ < 6000 by rw [List.length_map]; omega) (by decide), Ex.mut e2 n_D, But.trans bt (But.mut But.refl), ns ++ [z], by rw [upd_same, List.map_append]; rfl, ?_⟩
        rw [ens, List.take_add_one, hz, Option.toList_some, List.append_assoc]
      · rintro H2 ⟨e2, bt, ns, hD2, ens⟩
        refine ⟨e2, ns, hD2, ?_⟩
        rw [List.take_add_one, hs, Option.toList_some, endsS_app]
        exact ens
    rintro G1 ⟨e_G1, ns, h_D, ens⟩
    rw [List.length_map, lq, List.take_length] at ens
    subst ens
    repeat fail "st"
    have hb1 := ex_t e_G1 hb
    have rt1 := rt.up e_G1
    intro D2 n_D2
    refine go_tup (xs := ks.map V.ref) (fun i H' => Ex G1 H' ∧ ∃ ns : List Int, H' D2 = some (.lst (ns.map V.int)) ∧ ns = endsS (ts.take i)) ⟨Ex.new n_D2, [], upd_same, rfl⟩ (fun i H' _ h => ex_t h.1 hb1) ?_ ?_
    · rintro i v Hx hv ⟨e1, ns, hD1, rfl⟩
      obtain ⟨y, s, rfl, _, hs, rp⟩ := rows_at' (rt1.up e1) hv
      have rp' : Hx y = some (.tup [.int s.1, .int s.2]) := rp
      have is := (List.getElem?_eq_some_iff.mp hs).1
      have ln : (endsS (ts.take i)).length ≤ 4000 := by rw [endsS_len, List.length_take]; omega
      repeat fail "st"
      have nDl := noT_lst hD1
      refine go_tup (xs := [V.int s.1, .int s.2]) (fun j H' => Ex G1 H' ∧ But D2 Hx H' ∧ ∃ ns : List Int, H' D2 = some (.lst (ns.map V.int)) ∧ ns = endsS (ts.take i) ++ ([s.1, s.2].take j)) ⟨e1, But.refl, _, hD1, by rw [List.take_zero, List.append_nil]⟩ (fun j H' _ h => SqT.of (h.2.1 _ _ (fun z => nDl.1 _ (z ▸ rp')) rp')) ?_ ?_
      · rintro j v H2 hv ⟨e2, bt, ns, hD2, ens⟩
        obtain ⟨z, hz, rfl⟩ : ∃ z : Int, [s.1, s.2][j]? = some z ∧ v = .int z := by
          match j, hv with
          | 0, h => exact ⟨s.1, rfl, (Option.some.inj h).symm⟩
          | 1, h => exact ⟨s.2, rfl, (Option.some.inj h).symm⟩
          | j + 2, h => simp at h
        have lj : j < 2 := (List.getElem?_eq_some_iff.mp hz).1
        have ln2 : ns.length ≤ 4002 := by
          rw [ens, List.length_append, List.length_take]
          omega
        dsimp (config := { proj := false }) only [wipe, List.set, List.map]
        repeat fail "st"
        refine ⟨_, hD2, Nat.lt_of_lt_of_le (show _ < 6000 by rw [List.length_map]; omega) (by decide), Ex.mut e2 n_D2, But.trans bt (But.mut But.refl), ns ++ [z], by rw [upd_same, List.map_append]; rfl, ?_⟩
        rw [ens, List.take_add_one, hz, Option.toList_some, List.append_assoc]
      · rintro H2 ⟨e2, bt, ns, hD2, ens⟩
        refine ⟨e2, ns, hD2, ?_⟩
        rw [List.take_add_one, hs, Option.toList_some, endsS_app]
        exact ens
    rintro G2 ⟨e_G2, ns, h_D2, ens⟩
    rw [List.length_map, lk, List.take_length] at ens
    subst ens
    repeat fail "st"
    refine ⟨D, D2, _, _, rfl, rfl, e_G2 _ _ h_D, h_D2, by rw [List.length_map, List.length_map, endsS_len, endsS_len]; exact Nat.le_trans (show _ ≤ 4000 by omega) (by decide), fun p4 np4 => ?_⟩
    rw [← List.map_append]
    generalize hes : endsS ss ++ endsS ts = es0
    have les0 : es0.length = 2 * (ss.length + ts.length) := by rw [← hes, List.length_append, endsS_len, endsS_len]; omega
    generalize hh : upd G2 p4 _ = H5
    have e5 := newEx hh np4
    have h5 := newAt hh
    clear hh
    dsimp (config := { proj := false }) only [tNil]
    refine ⟨p4, es0, rfl, SqL.of h5, Nat.lt_of_le_of_lt (show _ ≤ 4001 by omega) (by decide), fun a5 c5 n5 lc5 => ?_⟩
    generalize hh : upd H5 a5 _ = H6
    have e6 := newEx hh n5
    have h6 := newAt hh
    clear hh
    refine ⟨a5, _, _, rfl, h6, fun es pe asc mes lenes npe => ?_⟩
    generalize hh : upd H6 pe _ = H7
    have e7 := newEx hh npe
    have h7 := newAt hh
    clear hh
    have eB : Ex H H7 := e_G1.trans (e_G2.trans (e5.trans (e6.trans e7)))
    have mes' : ∀ z, z ∈ es ↔ (∃ s ∈ ss, z = s.1 ∨ z = s.2) ∨ ∃ s ∈ ts, z = s.1 ∨ z = s.2 := fun z => by
      rw [mes, decide_eq_true_eq, ← hes, List.mem_append, mem_endsS, mem_endsS]
    have les : es.length ≤ 2 * (ss.length + ts.length) := by omega
    clear e_G1 e_G2 e5 e6 e7 h_D h_D2 h5 h6 mes hes lenes lc5 hb1 rt1 n_D n_D2 np4 n5
    repeat fail "st"
    intro fd n_fd
    generalize hh : upd _ fd _ = H_fd
    have e_fd := newEx hh n_fd
    have h_fd := newAt hh
    clear hh
    have nfd : H fd = none := ex_no eB n_fd
    have npf : pe ≠ fd := ne_of_none h7 n_fd
    have h8 := e_fd _ _ h7; have eB := eB.trans e_fd
    clear e_fd h7 n_fd npe
    repeat fail "st"
    intro t1 n_t1
    generalize hh : upd _ t1 _ = H_t1
    have e_t1 := newEx hh n_t1
    have h_t1 := newAt hh
    clear hh
    have h8 := e_t1 _ _ h8; have eB := eB.trans e_t1; have hfd := e_t1 _ _ h_fd
    have nt1 : t1 ≠ fd := fun z => by rw [z, h_fd] at n_t1; cases n_t1
    rw [cut_tail, ← List.map_tail] at h_t1
    have ltl : es.tail.length = es.length - 1 := List.length_tail
    dsimp (config := { proj := false }) only [tNil]
    refine ⟨pe, t1, es.map V.int, es.tail.map V.int, rfl, .inl ⟨SqL.of h8, SqL.of h_t1, ?_⟩⟩
    clear h_fd e_t1 n_t1
    refine for_zipS (xs := es.map V.int) (ys := es.tail.map V.int) (by rw [List.length_map, List.length_map, ltl]; omega) (fun t σ H' => ∃ (ii jj : Nat) (y7 y8 y9 y10 : Option V) (ds : List Addr) (fs : List (Int × Int)), σ = [some (.ref a0), some (.ref b0), some (.str way), some (.ref pe), some (.ref fd), some (.int ii), some (.int jj), y7, y8, y9, y10, none, none] ∧ But fd H_t1 H' ∧ Ex H H' ∧
      H' fd = some (.lst (ds.map V.ref)) ∧ Rows H' ds fs ∧ fs.length ≤ t ∧ ii ≤ ss.length ∧ jj ≤ ts.length ∧ DeadS ss es t ii ∧ DeadS ts es t jj ∧
      ∀ p, p ∈ fs ↔ ∃ (k : Nat) (c d : Int), k < t ∧ es[k]? = some c ∧ es[k + 1]? = some d ∧ p = (c, d) ∧ InS ss c ∧ (InS ts c ↔ decide (way = "both") = true)) ?_ ?_ ?_ ?_ ?_
    · exact ⟨0, 0, _, _, _, _, [], [], rfl, But.refl, eB, hfd, .nil, Nat.le_refl _, Nat.zero_le _, Nat.zero_le _, (fun k _ h => absurd h (Nat.not_lt_zero k)), (fun k _ h => absurd h (Nat.not_lt_zero k)), fun p => ⟨(fun m => by cases m), fun ⟨k, _, _, h, _⟩ => absurd h (Nat.not_lt_zero k)⟩⟩
    · rintro t _ H' ⟨ii, jj, y7, y8, y9, y10, ds, fs, rfl, bt, _⟩
      exact SqL.of (bt _ _ npf h8)
    · rintro t _ H' ⟨ii, jj, y7, y8, y9, y10, ds, fs, rfl, bt, _⟩
      exact SqL.of (bt _ _ nt1 h_t1)
    · rintro t x y tt _ H' hx hy ⟨ii, jj, y7, y8, y9, y10, ds, fs, rfl, bt, eD, hfd, rd, lf, li, lj, d1, d2, mem⟩ ntt
      rw [List.getElem?_map] at hx hy
      obtain ⟨lft, hl, rfl⟩ := Option.map_eq_some_iff.mp hx
      obtain ⟨rgt, hr2, rfl⟩ := Option.map_eq_some_iff.mp hy
      rw [List.getElem?_tail] at hr2
      generalize hh : upd H' tt _ = H9
      have e9 := newEx hh ntt
      have h9 := newAt hh
      clear hh
      have bt := bt.up e9; have eD := eD.trans e9; have hfd := e9 _ _ hfd; have rd := rd.up e9
      repeat fail "st"
      clear e9 h9
      have ha9 := ex_t eD ha
      have hb9 := ex_t eD hb
      have rs9 := rs.up eD
      have rt9 := rt.up eD
      dsimp (config := { proj := false }) only [List.set]
      refine ⟨fun n σ G => ∃ (mm : Nat), n = ss.length - mm ∧ σ = [some (.ref a0), some (.ref b0), some (.str way), some (.ref pe), some (.ref fd), some (.int (mm : Nat)), some (.int (jj : Nat)), some (.int lft), some (.int rgt), y9, y10, none, none] ∧ H9 = G ∧ ii ≤ mm ∧ mm ≤ ss.length ∧ ∀ (k : Nat) (s : Span), ii ≤ k → k < mm → ss[k]? = some s → s.2 ≤ lft, ⟨_, ii, rfl, rfl, rfl, Nat.le_refl _, li, fun k s h1 h2 => absurd h2 (by omega)⟩, ?_⟩
      rintro _ _ _ ⟨mm, rfl, rfl, rfl, km, ml, got⟩
      refine split_test (∃ s, ss[mm]? = some s ∧ s.2 ≤ lft) (fun Q h1 h2 => ?_) (fun tp => ?_) (fun fin => ?_)
      · repeat fail "st"
        refine ifD (fun c1 => ?_) (fun c1 => ?_)
        · rw [List.length_map, lq] at c1
          have lm : mm < ss.length := by omega
          obtain ⟨qa, eqa, hqa⟩ := paired_at2 rs9 (List.getElem?_eq_getElem lm)
          have hqa' : H9 qa = some (.tup [.int ss[mm].1, .int ss[mm].2]) := hqa
          have ixw : ∀ {Q : VK}, Q (.ref qa) H9 → rIx K (.ref a0) (.int (mm : Nat)) H9 Q := fun q => ixT_at (K := K) (j := mm) ha9 rfl (by rw [List.getElem?_map, eqa]; rfl) q
          repeat fail "st"
          refine ixw ?_
          repeat fail "st"
          by_cases c2 : ss[mm].2 ≤ lft
          · rw [decide_eq_true c2]
            exact h1 ⟨_, List.getElem?_eq_getElem lm, c2⟩
          · rw [decide_eq_false c2]
            exact h2 fun ⟨s, hs, l⟩ => c2 (by rw [List.getElem?_eq_getElem lm] at hs; cases hs; exact l)
        · rw [List.length_map, lq] at c1
          exact h2 fun ⟨s, hs, l⟩ => by
            have := (List.getElem?_eq_some_iff.mp hs).1
            omega
      · obtain ⟨s0, hs0, l0⟩ := tp
        have lm := (List.getElem?_eq_some_iff.mp hs0).1
        refine iteT (B := True) ⟨fun σ' G' => σ' = [some (.ref a0), some (.ref b0), some (.str way), some (.ref pe), some (.ref fd), some (.int ((mm + 1 : Nat) : Int)), some (.int (jj : Nat)), some (.int lft), some (.int rgt), y9, y10, none, none] ∧ H9 = G', fun σ' G' ⟨e1, e2⟩ => ⟨ss.length - (mm + 1), by omega, mm + 1, rfl, e1, e2, by omega, lm, fun k s h1 h2 hs => ?_⟩, ?_⟩
        · rcases Nat.lt_or_ge k mm with l | l
          · exact got k s h1 l hs
          · obtain rfl : k = mm := by omega
            rw [hs0] at hs
            cases hs
            exact l0
        repeat fail "st"
        rfl
      refine iteF (A := True) ?_
      have ml1 := ml
      have in1 := inS_idx cs d1 hl got (fun s hs => Int.not_le.mp fun l => fin ⟨s, hs, l⟩)
      refine ⟨fun n σ G => ∃ (nn : Nat), n = ts.length - nn ∧ σ = [some (.ref a0), some (.ref b0), some (.str way), some (.ref pe), some (.ref fd), some (.int (mm : Nat)), some (.int (nn : Nat)), some (.int lft), some (.int rgt), y9, y10, none, none] ∧ H9 = G ∧ jj ≤ nn ∧ nn ≤ ts.length ∧ ∀ (k : Nat) (s : Span), jj ≤ k → k < nn → ts[k]? = some s → s.2 ≤ lft, ⟨_, jj, rfl, rfl, rfl, Nat.le_refl _, lj, fun k s h1 h2 => absurd h2 (by omega)⟩, ?_⟩
      rintro _ _ _ ⟨nn, rfl, rfl, rfl, km, ml, got2⟩
      refine split_test (∃ s, ts[nn]? = some s ∧ s.2 ≤ lft) (fun Q h1 h2 => ?_) (fun tp => ?_) (fun fin2 => ?_)
      · repeat fail "st"
        refine ifD (fun c1 => ?_) (fun c1 => ?_)
        · rw [List.length_map, lk] at c1
          have lm : nn < ts.length := by omega
          obtain ⟨qa, eqa, hqa⟩ := paired_at2 rt9 (List.getElem?_eq_getElem lm)
          have hqa' : H9 qa = some (.tup [.int ts[nn].1, .int ts[nn].2]) := hqa
          have ixw : ∀ {Q : VK}, Q (.ref qa) H9 → rIx K (.ref b0) (.int (nn : Nat)) H9 Q := fun q => ixT_at (K := K) (j := nn) hb9 rfl (by rw [List.getElem?_map, eqa]; rfl) q
          repeat fail "st"
          refine ixw ?_
          repeat fail "st"
          by_cases c2 : ts[nn].2 ≤ lft
          · rw [decide_eq_true c2]
            exact h1 ⟨_, List.getElem?_eq_getElem lm, c2⟩
          · rw [decide_eq_false c2]
            exact h2 fun ⟨s, hs, l⟩ => c2 (by rw [List.getElem?_eq_getElem lm] at hs; cases hs; exact l)
        · rw [List.length_map, lk] at c1
          exact h2 fun ⟨s, hs, l⟩ => by
            have := (List.getElem?_eq_some_iff.mp hs).1
            omega
      · obtain ⟨s0, hs0, l0⟩ := tp
        have lm := (List.getElem?_eq_some_iff.mp hs0).1
        refine iteT (B := True) ⟨fun σ' G' => σ' = [some (.ref a0), some (.ref b0), some (.str way), some (.ref pe), some (.ref fd), some (.int (mm : Nat)), some (.int ((nn + 1 : Nat) : Int)), some (.int lft), some (.int rgt), y9, y10, none, none] ∧ H9 = G', fun σ' G' ⟨e1, e2⟩ => ⟨ts.length - (nn + 1), by omega, nn + 1, rfl, e1, e2, by omega, lm, fun k s h1 h2 hs => ?_⟩, ?_⟩
        · rcases Nat.lt_or_ge k nn with l | l
          · exact got2 k s h1 l hs
          · obtain rfl : k = nn := by omega
            rw [hs0] at hs
            cases hs
            exact l0
        repeat fail "st"
        rfl
      refine iteF (A := True) ?_
      have in2 := inS_idx ct d2 hl got2 (fun s hs => Int.not_le.mp fun l => fin2 ⟨s, hs, l⟩)
      try dsimp only
      refine seq_asg ?_
      refine split_val (InS ss lft) (fun Q h => ?_) (fun b1 w1 => ?_)
      · repeat fail "st"
        refine ifD (fun c1 => ?_) (fun c1 => ?_)
        · rw [List.length_map, lq] at c1
          have lm : mm < ss.length := by omega
          obtain ⟨qa, eqa, hqa⟩ := paired_at2 rs9 (List.getElem?_eq_getElem lm)
          have hqa' : H9 qa = some (.tup [.int ss[mm].1, .int ss[mm].2]) := hqa
          have ixw : ∀ {Q : VK}, Q (.ref qa) H9 → rIx K (.ref a0) (.int (mm : Nat)) H9 Q := fun q => ixT_at (K := K) (j := mm) ha9 rfl (by rw [List.getElem?_map, eqa]; rfl) q
          repeat fail "st"
          refine ixw ?_
          repeat fail "st"
          refine h _ (decide_eq_true_iff.trans (Iff.symm (in1.trans ?_)))
          rw [List.getElem?_eq_getElem lm]
          exact ⟨fun ⟨s, e, l⟩ => by cases e; exact l, fun l => ⟨_, rfl, l⟩⟩
        · rw [List.length_map, lq] at c1
          repeat fail "st"
          refine h _ ⟨(fun z => nomatch z), fun z => ?_⟩
          obtain ⟨s, e, _⟩ := in1.mp z
          have := (List.getElem?_eq_some_iff.mp e).1
          omega
      try unfold gName
      try dsimp only
      refine seq_asg ?_
      refine split_val (InS ts lft) (fun Q h => ?_) (fun b2 w2 => ?_)
      · repeat fail "st"
        refine ifD (fun c1 => ?_) (fun c1 => ?_)
        · rw [List.length_map, lk] at c1
          have lm : nn < ts.length := by omega
          obtain ⟨qa, eqa, hqa⟩ := paired_at2 rt9 (List.getElem?_eq_getElem lm)
          have hqa' : H9 qa = some (.tup [.int ts[nn].1, .int ts[nn].2]) := hqa
          have ixw : ∀ {Q : VK}, Q (.ref qa) H9 → rIx K (.ref b0) (.int (nn : Nat)) H9 Q := fun q => ixT_at (K := K) (j := nn) hb9 rfl (by rw [List.getElem?_map, eqa]; rfl) q
          repeat fail "st"
          refine ixw ?_
          repeat fail "st"
          refine h _ (decide_eq_true_iff.trans (Iff.symm (in2.trans ?_)))
          rw [List.getElem?_eq_getElem lm]
          exact ⟨fun ⟨s, e, l⟩ => by cases e; exact l, fun l => ⟨_, rfl, l⟩⟩
        · rw [List.length_map, lk] at c1
          repeat fail "st"
          refine h _ ⟨(fun z => nomatch z), fun z => ?_⟩
          obtain ⟨s, e, _⟩ := in2.mp z
          have := (List.getElem?_eq_some_iff.mp e).1
          omega
      try unfold gName
      try dsimp only
      refine the_if ?_
      refine split_test (InS ss lft ∧ (InS ts lft ↔ decide (way = "both") = true)) (fun Q h1 h2 => ?_) (fun tp => ?_) (fun fl => ?_)
      · repeat fail "st"
        refine ifB (fun e1 => ?_) (fun e1 => ?_)
        · repeat fail "st"
          have e2 : decide (V.str way = V.str (Str.ofString "both")) = decide (way = "both") := decide_eq_decide.mpr ⟨V.str.inj, congrArg V.str⟩
          rw [e2]
          by_cases c : InS ts lft ↔ decide (way = "both") = true
          · rw [decide_eq_true (congrArg V.bl (Bool.eq_iff_iff.mpr (w2.trans c)))]
            exact h1 ⟨w1.mp e1, c⟩
          · rw [decide_eq_false fun z => c (w2.symm.trans (Bool.eq_iff_iff.mp (V.bl.inj z)))]
            exact h2 fun z => c z.2
        · exact h2 fun z => by rw [w1.mpr z.1] at e1; cases e1
      · refine iteT (B := True) ?_
        repeat fail "st"
        refine ⟨.inl ⟨rfl, _, SqL.of hfd⟩, ?_⟩
        repeat fail "st"
        intro nt n_nt
        generalize hh : upd _ nt _ = H_nt
        have e_nt := newEx hh n_nt
        have h_nt := newAt hh
        clear hh
        have hfd2 := e_nt _ _ hfd
        have lds := Paired.length rd
        have lte : t < es.length := (List.getElem?_eq_some_iff.mp hl).1
        have ne : nt ≠ fd := fun z => by rw [z, hfd] at n_nt; cases n_nt
        refine ⟨fd, _, _, rfl, rfl, hfd2, Nat.lt_of_lt_of_le (show _ < 6000 by rw [List.length_map]; omega) (by decide), ?_⟩
        refine ⟨mm, nn, _, _, _, _, ds ++ [nt], fs ++ [(lft, rgt)], rfl, But.mut (bt.up e_nt), Ex.mut (eD.trans e_nt) nfd, by rw [upd_same, List.map_append]; rfl, ?_, ?_, ml1, ml, d1.next asc hl got, d2.next asc hl got2, fun p => ?_⟩
        · exact rows_snoc (by show upd H_nt fd _ nt = _; rw [upd_ne ne]; exact h_nt) (rows_but (But.mut But.refl) hfd2 (rd.up e_nt))
        · rw [List.length_append]
          exact Nat.succ_le_succ lf
        · rw [List.mem_append, List.mem_singleton, mem]
          constructor
          · rintro (⟨k, c, d, hk, h⟩ | rfl)
            · exact ⟨k, c, d, by omega, h⟩
            · exact ⟨t, lft, rgt, Nat.lt_succ_self _, hl, hr2, rfl, tp⟩
          · rintro ⟨k, c, d, hk, hc, hd, rfl, hh⟩
            by_cases l : k < t
            · exact .inl ⟨k, c, d, l, hc, hd, rfl, hh⟩
            · obtain rfl : k = t := by omega
              rw [hl] at hc
              rw [hr2] at hd
              cases hc
              cases hd
              exact .inr rfl
      · refine iteF (A := True) ?_
        refine (show ∃ (ii jj : Nat) (y7 y8 y9 y10 : Option V) (ds : List Addr) (fs : List (Int × Int)), _ from ⟨mm, nn, _, _, _, _, ds, fs, rfl, bt, eD, hfd, rd, Nat.le_succ_of_le lf, ml1, ml, d1.next asc hl got, d2.next asc hl got2, fun p => ?_⟩)
        rw [mem]
        constructor
        · rintro ⟨k, c, d, hk, h⟩
          exact ⟨k, c, d, by omega, h⟩
        · rintro ⟨k, c, d, hk, hc, hd, rfl, hh⟩
          by_cases l : k < t
          · exact ⟨k, c, d, l, hc, hd, rfl, hh⟩
          · obtain rfl : k = t := by omega
            rw [hl] at hc
            cases hc
            exact absurd hh fl
    · rintro _ H' ⟨ii, jj, y7, y8, y9, y10, ds, fs, rfl, bt, eD, hfd, rd, lf, li, lj, d1, d2, mem⟩
      rw [List.length_map, ltl] at lf
      have mem' : ∀ p, p ∈ fs ↔ ∃ (k : Nat) (c d : Int), es[k]? = some c ∧ es[k + 1]? = some d ∧ p = (c, d) ∧ InS ss c ∧ (InS ts c ↔ decide (way = "both") = true) := fun p => by
        rw [mem]
        constructor
        · rintro ⟨k, c, d, _, h⟩
          exact ⟨k, c, d, h⟩
        · rintro ⟨k, c, d, hc, hd, h⟩
          have := (List.getElem?_eq_some_iff.mp hd).1
          exact ⟨k, c, d, by rw [List.length_map, ltl]; omega, hc, hd, h⟩
      repeat fail "st"
      refine ⟨fd, ds, fs, SqL.of hfd, rfl, rd, fun p m => ?_, by omega, fun tu us H4 e4 st sc ins lss => ?_⟩
      · obtain ⟨k, c, d, hc, hd, rfl, _⟩ := (mem' p).mp m
        obtain ⟨l1, e1⟩ := List.getElem?_eq_some_iff.mp hc
        obtain ⟨l2, e2⟩ := List.getElem?_eq_some_iff.mp hd
        have := List.pairwise_iff_getElem.mp asc k (k + 1) l1 l2 (by omega)
        dsimp only
        omega
      · exact q tu us H4 (eD.trans e4) st sc (fun x => (ins x).trans (mix_spans asc mes' mem' x)) (by omega)
end

end K14
namespace K14
open PySem PySem.Spec PyProof.Rows L2 Evl Lw
section
variable {P : Program} {w : World} {K : PySem.W.Frag} {mg : Str → Option Value} {base : Heap} {C : Addr}
/-- the ends of bands -/
def endsB (ss : List Band) : List Int := ss.flatMap fun s => [s.1, s.2.1]
theorem endsB_app {a b : List Band} : endsB (a ++ b) = endsB a ++ endsB b := List.flatMap_append
theorem endsB_len (ss : List Band) : (endsB ss).length = 2 * ss.length := by
  induction ss with
  | nil => rfl
  | cons b bs ih =>
    show ([b.1, b.2.1] ++ endsB bs).length = _
    rw [List.length_append, ih]
    show 2 + 2 * bs.length = 2 * (bs.length + 1)
    omega
theorem mem_endsB {ss : List Band} {z : Int} : z ∈ endsB ss ↔ ∃ s ∈ ss, z = s.1 ∨ z = s.2.1 := by
  unfold endsB
  rw [List.mem_flatMap]
  exact exists_congr fun s => and_congr_right fun _ => by simp
/-- the first bands end ahead of all edges that come -/
def DeadB (ss : List Band) (es : List Int) (t ii : Nat) : Prop := ∀ (k : Nat) (s : Band), k < ii → ss[k]? = some s → ∀ (j : Nat) (c : Int), t ≤ j → es[j]? = some c → s.2.1 ≤ c
theorem DeadB.next {ss : List Band} {es : List Int} {t ii mm : Nat} {c : Int} (d : DeadB ss es t ii) (asc : es.Pairwise (· < ·)) (hc : es[t]? = some c) (h : ∀ (k : Nat) (s : Band), ii ≤ k → k < mm → ss[k]? = some s → s.2.1 ≤ c) : DeadB ss es (t + 1) mm := fun k s hk hs j e hj he => by
  rcases Nat.lt_or_ge k ii with l | l
  · exact d k s l hs j e (by omega) he
  · have h1 := h k s l hk hs
    have := asc_at asc (by omega : t ≤ j) hc he
    omega
theorem ptB_idx {ss : List Band} {es : List Int} {t mm ii : Nat} {c x : Int} (bc : BandC ss) (d : DeadB ss es t ii) (hc : es[t]? = some c) (h : ∀ (k : Nat) (s : Band), ii ≤ k → k < mm → ss[k]? = some s → s.2.1 ≤ c) (fin : ∀ s, ss[mm]? = some s → c < s.2.1) : InS (atB ss mm c) x ↔ PtB ss x c := by
  have key := fun v => at_idx (ii := mm) (y := c) (v := v) bc.1 (fun k r hk hr => by
    rcases Nat.lt_or_ge k ii with l | l
    · exact d k r l hr t c (Nat.le_refl _) hc
    · exact h k r l hk hr) fin
  unfold PtB atB
  constructor
  · intro hx
    cases e : ss[mm]? with
    | none => rw [e] at hx; obtain ⟨_, m, _⟩ := hx; cases m
    | some b =>
      rw [e] at hx
      dsimp only at hx
      by_cases l : b.1 ≤ c
      · rw [if_pos l] at hx
        exact ⟨b.2.2, (key _).mpr ⟨b, e, l, rfl⟩, hx⟩
      · rw [if_neg l] at hx
        obtain ⟨_, m, _⟩ := hx
        cases m
  · rintro ⟨v, a, hx⟩
    obtain ⟨b, e, l, rfl⟩ := (key v).mp a
    rw [e]
    dsimp only
    rw [if_pos l]
    exact hx
theorem atB_span {ss : List Band} {k : Nat} {y : Int} (bc : BandC ss) : SpanC (atB ss k y) := by
  unfold atB
  split
  · rename_i b e
    split
    · exact (bc.2 b (List.mem_of_getElem? e)).1
    · exact canon_nil
  · exact canon_nil
theorem atB_few {ss : List Band} {k n : Nat} {y : Int} (h : ∀ c ∈ ss, c.2.2.length ≤ n) : (atB ss k y).length ≤ n := by
  unfold atB
  split
  · rename_i b e
    split
    · exact h b (List.mem_of_getElem? e)
    · exact Nat.zero_le _
  · exact Nat.zero_le _
def spMixB (K : PySem.W.Frag) : Sp := fun vs H Q _ => ∃ (a b : Addr) (ss ts : List Band) (way : Str), BdT K H a ss ∧ BdT K H b ts ∧ vs = [.ref a, .ref b, .str way] ∧ BandC ss ∧ BandC ts ∧ ss.length + ts.length ≤ 2000 ∧ (∀ c ∈ ss, c.2.2.length ≤ 1000) ∧ (∀ c ∈ ts, c.2.2.length ≤ 1000) ∧
  ∀ t us H', Ex H H' → BdT K H' t us → BandC us → (∀ x y, PtB us x y ↔ PtB ss x y ∧ (PtB ts x y ↔ decide (way = "both") = true)) → Q (.ref t) H'
set_option maxHeartbeats 8000000 in
theorem c_mixed_bands (T : Txt K mg) : Cl P w K mg base CX0 3 "mixed_bands" s_mixed_bands ["one", "other", "way"] (spMixB K) := by
  refine cl_of (k := 2) T.d_mixed_bands sc_mixed_bands (fun vs H Q E h => ?_) (fun f cdv A outer s H vs Q E hr h => ?_)
  · obtain ⟨a, b, ss, ts, way, _, _, rfl, _⟩ := h
    rfl
  · obtain ⟨a0, b0, ss, ts, way, ⟨qs, ha, rs⟩, ⟨ks, hb, rt⟩, rfl, cs, ct, len, lss, lts, q⟩ := h
    have nd := sc_mixed_bands.nd
    have lq := Paired.length rs
    have lk := Paired.length rt
    refine ⟨_, (pss_cons (ps_set (i := 3) nd rfl (Or.inl rfl) (pe_callB ((Lw.cr_sortSI rfl)) (by rfl) T.b_sorted bt_sorted (pa_cons (pe_callTy (Lw.cr_setI rfl) (by rfl) T.b_set bt_set (pa_cons (pe_op op_cat (pe_lc2 (own := [("band", 9), ("edge", 10)]) (vs1 := [10]) (g := gName 9) (g1 := gName 10) (tt := tYes) (tt1 := tYes) rfl nd (pi_tup (pv 0)) (L2.blkOk_by (N := N_mixed_bands) (sc := defScope s_mixed_bands) (by decide +kernel)) (by decide) (fun _ _ _ _ _ => (pg_name (i := 9) nd rfl (Or.inl rfl))) (fun _ _ _ _ _ => pts_nil) (fun _ _ _ _ _ => (pi_tup (pe_slice (sl_tup : SlR _ (rSlT K)) (pv 9) po_none (po_some pe_int)) : PI _ _ _ (iTup K _))) (fun _ _ _ _ _ => (pg_name (i := 10) nd rfl (Or.inl rfl))) (fun _ _ _ _ _ => pts_nil) (fun _ _ _ _ _ => (pv 10))) (pe_lc2 (own := [("band", 9), ("edge", 10)]) (vs1 := [10]) (g := gName 9) (g1 := gName 10) (tt := tYes) (tt1 := tYes) rfl nd (pi_tup (pv 1)) (L2.blkOk_by (N := N_mixed_bands) (sc := defScope s_mixed_bands) (by decide +kernel)) (by decide) (fun _ _ _ _ _ => (pg_name (i := 9) nd rfl (Or.inl rfl))) (fun _ _ _ _ _ => pts_nil) (fun _ _ _ _ _ => (pi_tup (pe_slice (sl_tup : SlR _ (rSlT K)) (pv 9) po_none (po_some pe_int)) : PI _ _ _ (iTup K _))) (fun _ _ _ _ _ => (pg_name (i := 10) nd rfl (Or.inl rfl))) (fun _ _ _ _ _ => pts_nil) (fun _ _ _ _ _ => (pv 10)))) pa_nil)) pa_nil)))
      (pss_cons (ps_set (i := 4) nd rfl (Or.inl rfl) (pe_lst pa_nil))
      (pss_cons (ps_set (i := 5) nd rfl (Or.inl rfl) pe_int)
      (pss_cons (ps_set (i := 6) nd rfl (Or.inl rfl) pe_int)
      (pss_cons (ps_for PassesOwn.never rfl (RZ.pi_zipA (by rfl) T.b_zip (pa_cons (pv 3) (pa_cons (pe_slice sl_list (pv 3) (po_some pe_int) po_none) pa_nil))) (pg_tup rfl (pgs_cons (pg_name (i := 7) nd rfl (Or.inl rfl)) (pgs_cons (pg_name (i := 8) nd rfl (Or.inl rfl)) pgs_nil))) (pss_cons (ps_while PassesOwn.never (PW.pt (pw_and (pt_cmpR op_lt (pv 5) (pe_callB (call_len) (by rfl) T.b_len bt_len (pa_cons (pv 0) pa_nil)) (nomark _)) (pw_and1 (pt_cmpR op_le (pe_ix ix_seq (pe_ix ix_seq (pv 0) (pv 5) (fun _ _ => rfl)) pe_int (fun _ _ => rfl)) (pv 7) (nomark _))))) (pss_one (ps_aug (i := 5) nd rfl (Or.inl rfl) pe_int ip_add)))
      (pss_cons (ps_while PassesOwn.never (PW.pt (pw_and (pt_cmpR op_lt (pv 6) (pe_callB (call_len) (by rfl) T.b_len bt_len (pa_cons (pv 1) pa_nil)) (nomark _)) (pw_and1 (pt_cmpR op_le (pe_ix ix_seq (pe_ix ix_seq (pv 1) (pv 6) (fun _ _ => rfl)) pe_int (fun _ _ => rfl)) (pv 7) (nomark _))))) (pss_one (ps_aug (i := 6) nd rfl (Or.inl rfl) pe_int ip_add)))
      (pss_one (ps_expr (pe_bm PySem.F.plainAttrs_list PySem.F.slot_list_append PySem.F.type_list_append mt_append (pv 4) (pa_cons (pe_tup (pa_cons (pv 7) (pa_cons (pv 8) (pa_cons (Lw.pe_cl (c_mixed_spans T) b_mixed_spans hr (by decide) (by rfl) pass0 (pa_cons (Lw.pe_cl (c_spans_at T) b_spans_at hr (by decide) (by rfl) pass0 (pa_cons (pv 0) (pa_cons (pv 5) (pa_cons (pv 7) pa_nil)))) (pa_cons (Lw.pe_cl (c_spans_at T) b_spans_at hr (by decide) (by rfl) pass0 (pa_cons (pv 1) (pa_cons (pv 6) (pa_cons (pv 7) pa_nil)))) (pa_cons (pv 2) pa_nil)))) pa_nil)))) pa_nil)))))))
      (pss_one (ps_ret (Lw.pe_cl (c_joined_bands T) b_joined_bands hr (by decide) (by rfl) pass0 (pa_cons (pv 4) pa_nil))))))))), ?_⟩
    rw [show L2.start N_mixed_bands [V.ref a0, V.ref b0, V.str way] = [some (V.ref a0), some (V.ref b0), some (V.str way), none, none, none, none, none, none, none, none] from rfl]
    repeat fail "st"
    intro D n_D
    refine go_tup (xs := qs.map V.ref) (fun i H' => Ex H H' ∧ ∃ ns : List Int, H' D = some (.lst (ns.map V.int)) ∧ ns = endsB (ss.take i)) ⟨Ex.new n_D, [], upd_same, rfl⟩ (fun i H' _ h => ex_t h.1 ha) ?_ ?_
    · rintro i v Hx hv ⟨e1, ns, hD1, rfl⟩
      obtain ⟨y, s, rfl, hs, tc, rp', sp⟩ := bds_at (Bds.up e1 rs) hv
      have is := (List.getElem?_eq_some_iff.mp hs).1
      have ln : (endsB (ss.take i)).length ≤ 4000 := by rw [endsB_len, List.length_take]; omega
      repeat fail "st"
      refine ⟨(by show ¬ (HT.sIx 3 0 _ = 0 ∧ HT.sIx 3 3 _ = 3); decide), ?_⟩
      intro tw n_tw
      generalize hh : upd _ tw _ = H_tw
      have e_tw := newEx hh n_tw
      have h_tw := newAt hh
      clear hh
      replace h_tw : H_tw tw = some (.tup [.int s.1, .int s.2.1]) := h_tw
      repeat fail "st"
      have hD1 := e_tw _ _ hD1
      have e1 := e1.trans e_tw
      have nDl := noT_lst hD1
      refine go_tup (xs := [V.int s.1, .int s.2.1]) (fun j H' => Ex H H' ∧ But D H_tw H' ∧ ∃ ns : List Int, H' D = some (.lst (ns.map V.int)) ∧ ns = endsB (ss.take i) ++ ([s.1, s.2.1].take j)) ⟨e1, But.refl, _, hD1, by rw [List.take_zero, List.append_nil]⟩ (fun j H' _ h => SqT.of (h.2.1 _ _ (fun z => nDl.1 _ (z ▸ h_tw)) h_tw)) ?_ ?_
      · rintro j v H2 hv ⟨e2, bt, ns, hD2, ens⟩
        obtain ⟨z, hz, rfl⟩ : ∃ z : Int, [s.1, s.2.1][j]? = some z ∧ v = .int z := by
          match j, hv with
          | 0, h => exact ⟨s.1, rfl, (Option.some.inj h).symm⟩
          | 1, h => exact ⟨s.2.1, rfl, (Option.some.inj h).symm⟩
          | j + 2, h => simp at h
        have lj : j < 2 := (List.getElem?_eq_some_iff.mp hz).1
        have ln2 : ns.length ≤ 4002 := by
          rw [ens, List.length_append, List.length_take]
          omega
        dsimp (config := { proj := false }) only [wipe, List.set, List.map]
        repeat fail "st"
        refine ⟨_, hD2, Nat.lt_of_lt_of_le (show _ < 6000 by rw [List.length_map]; omega) (by decide), Ex.mut e2 n_D, But.trans bt (But.mut But.refl), ns ++ [z], by rw [upd_same, List.map_append]; rfl, ?_⟩
        rw [ens, List.take_add_one, hz, Option.toList_some, List.append_assoc]
      · rintro H2 ⟨e2, bt, ns, hD2, ens⟩
        refine ⟨e2, ns, hD2, ?_⟩
        rw [List.take_add_one, hs, Option.toList_some, endsB_app]
        exact ens
    rintro G1 ⟨e_G1, ns, h_D, ens⟩
    rw [List.length_map, lq, List.take_length] at ens
    subst ens
    repeat fail "st"
    have hb1 := ex_t e_G1 hb
    have rt1 := Bds.up e_G1 rt
    intro D2 n_D2
    refine go_tup (xs := ks.map V.ref) (fun i H' => Ex G1 H' ∧ ∃ ns : List Int, H' D2 = some (.lst (ns.map V.int)) ∧ ns = endsB (ts.take i)) ⟨Ex.new n_D2, [], upd_same, rfl⟩ (fun i H' _ h => ex_t h.1 hb1) ?_ ?_
    · rintro i v Hx hv ⟨e1, ns, hD1, rfl⟩
      obtain ⟨y, s, rfl, hs, tc, rp', sp⟩ := bds_at (Bds.up e1 rt1) hv
      have is := (List.getElem?_eq_some_iff.mp hs).1
      have ln : (endsB (ts.take i)).length ≤ 4000 := by rw [endsB_len, List.length_take]; omega
      repeat fail "st"
      refine ⟨(by show ¬ (HT.sIx 3 0 _ = 0 ∧ HT.sIx 3 3 _ = 3); decide), ?_⟩
      intro tw n_tw
      generalize hh : upd _ tw _ = H_tw
      have e_tw := newEx hh n_tw
      have h_tw := newAt hh
      clear hh
      replace h_tw : H_tw tw = some (.tup [.int s.1, .int s.2.1]) := h_tw
      repeat fail "st"
      have hD1 := e_tw _ _ hD1
      have e1 := e1.trans e_tw
      have nDl := noT_lst hD1
      refine go_tup (xs := [V.int s.1, .int s.2.1]) (fun j H' => Ex G1 H' ∧ But D2 H_tw H' ∧ ∃ ns : List Int, H' D2 = some (.lst (ns.map V.int)) ∧ ns = endsB (ts.take i) ++ ([s.1, s.2.1].take j)) ⟨e1, But.refl, _, hD1, by rw [List.take_zero, List.append_nil]⟩ (fun j H' _ h => SqT.of (h.2.1 _ _ (fun z => nDl.1 _ (z ▸ h_tw)) h_tw)) ?_ ?_
      · rintro j v H2 hv ⟨e2, bt, ns, hD2, ens⟩
        obtain ⟨z, hz, rfl⟩ : ∃ z : Int, [s.1, s.2.1][j]? = some z ∧ v = .int z := by
          match j, hv with
          | 0, h => exact ⟨s.1, rfl, (Option.some.inj h).symm⟩
          | 1, h => exact ⟨s.2.1, rfl, (Option.some.inj h).symm⟩
          | j + 2, h => simp at h
        have lj : j < 2 := (List.getElem?_eq_some_iff.mp hz).1
        have ln2 : ns.length ≤ 4002 := by
          rw [ens, List.length_append, List.length_take]
          omega
        dsimp (config := { proj := false }) only [wipe, List.set, List.map]
        repeat fail "st"
        refine ⟨_, hD2, Nat.lt_of_lt_of_le (show _ < 6000 by rw [List.length_map]; omega) (by decide), Ex.mut e2 n_D2, But.trans bt (But.mut But.refl), ns ++ [z], by rw [upd_same, List.map_append]; rfl, ?_⟩
        rw [ens, List.take_add_one, hz, Option.toList_some, List.append_assoc]
      · rintro H2 ⟨e2, bt, ns, hD2, ens⟩
        refine ⟨e2, ns, hD2, ?_⟩
        rw [List.take_add_one, hs, Option.toList_some, endsB_app]
        exact ens
    rintro G2 ⟨e_G2, ns, h_D2, ens⟩
    rw [List.length_map, lk, List.take_length] at ens
    subst ens
    repeat fail "st"
    refine ⟨D, D2, _, _, rfl, rfl, e_G2 _ _ h_D, h_D2, by rw [List.length_map, List.length_map, endsB_len, endsB_len]; exact Nat.le_trans (show _ ≤ 4000 by omega) (by decide), fun p4 np4 => ?_⟩
    rw [← List.map_append]
    generalize hes : endsB ss ++ endsB ts = es0
    have les0 : es0.length = 2 * (ss.length + ts.length) := by rw [← hes, List.length_append, endsB_len, endsB_len]; omega
    generalize hh : upd G2 p4 _ = H5
    have e5 := newEx hh np4
    have h5 := newAt hh
    clear hh
    dsimp (config := { proj := false }) only [tNil]
    refine ⟨p4, es0, rfl, SqL.of h5, Nat.lt_of_le_of_lt (show _ ≤ 4001 by omega) (by decide), fun a5 c5 n5 lc5 => ?_⟩
    generalize hh : upd H5 a5 _ = H6
    have e6 := newEx hh n5
    have h6 := newAt hh
    clear hh
    refine ⟨a5, _, _, rfl, h6, fun es pe asc mes lenes npe => ?_⟩
    generalize hh : upd H6 pe _ = H7
    have e7 := newEx hh npe
    have h7 := newAt hh
    clear hh
    have eB : Ex H H7 := e_G1.trans (e_G2.trans (e5.trans (e6.trans e7)))
    have mes' : ∀ z, z ∈ es ↔ (∃ s ∈ ss, z = s.1 ∨ z = s.2.1) ∨ ∃ s ∈ ts, z = s.1 ∨ z = s.2.1 := fun z => by
      rw [mes, decide_eq_true_eq, ← hes, List.mem_append, mem_endsB, mem_endsB]
    have les : es.length ≤ 2 * (ss.length + ts.length) := by omega
    clear e_G1 e_G2 e5 e6 e7 h_D h_D2 h5 h6 mes hes lenes lc5 hb1 rt1 n_D n_D2 np4 n5
    repeat fail "st"
    intro fd n_fd
    generalize hh : upd _ fd _ = H_fd
    have e_fd := newEx hh n_fd
    have h_fd := newAt hh
    clear hh
    have nfd : H fd = none := ex_no eB n_fd
    have npf : pe ≠ fd := ne_of_none h7 n_fd
    have h8 := e_fd _ _ h7; have eB := eB.trans e_fd
    clear e_fd h7 n_fd npe
    repeat fail "st"
    intro t1 n_t1
    generalize hh : upd _ t1 _ = H_t1
    have e_t1 := newEx hh n_t1
    have h_t1 := newAt hh
    clear hh
    have h8 := e_t1 _ _ h8; have eB := eB.trans e_t1; have hfd := e_t1 _ _ h_fd
    have nt1 : t1 ≠ fd := fun z => by rw [z, h_fd] at n_t1; cases n_t1
    rw [cut_tail, ← List.map_tail] at h_t1
    have ltl : es.tail.length = es.length - 1 := List.length_tail
    dsimp (config := { proj := false }) only [tNil]
    refine ⟨pe, t1, es.map V.int, es.tail.map V.int, rfl, .inl ⟨SqL.of h8, SqL.of h_t1, ?_⟩⟩
    clear h_fd e_t1 n_t1
    refine for_zipS (xs := es.map V.int) (ys := es.tail.map V.int) (by rw [List.length_map, List.length_map, ltl]; omega) (fun t σ H' => ∃ (ii jj : Nat) (y7 y8 : Option V) (ds : List Addr) (bs : List Band), σ = [some (.ref a0), some (.ref b0), some (.str way), some (.ref pe), some (.ref fd), some (.int ii), some (.int jj), y7, y8, none, none] ∧ But fd H_t1 H' ∧ Ex H H' ∧
      H' fd = some (.lst (ds.map V.ref)) ∧ Bds K H' ds bs ∧ bs.length = t ∧ ii ≤ ss.length ∧ jj ≤ ts.length ∧ DeadB ss es t ii ∧ DeadB ts es t jj ∧
      ∀ (j : Nat) (c : Band), bs[j]? = some c → ∃ u v, es[j]? = some u ∧ es[j + 1]? = some v ∧ c.1 = u ∧ c.2.1 = v ∧ SpanC c.2.2 ∧ ∀ x, InS c.2.2 x ↔ PtB ss x u ∧ (PtB ts x u ↔ decide (way = "both") = true)) ?_ ?_ ?_ ?_ ?_
    · exact ⟨0, 0, _, _, [], [], rfl, But.refl, eB, hfd, .nil, rfl, Nat.zero_le _, Nat.zero_le _, (fun k _ h => absurd h (Nat.not_lt_zero k)), (fun k _ h => absurd h (Nat.not_lt_zero k)), fun j c h => by simp at h⟩
    · rintro t _ H' ⟨ii, jj, y7, y8, ds, bs, rfl, bt, _⟩
      exact SqL.of (bt _ _ npf h8)
    · rintro t _ H' ⟨ii, jj, y7, y8, ds, bs, rfl, bt, _⟩
      exact SqL.of (bt _ _ nt1 h_t1)
    · rintro t x y tt _ H' hx hy ⟨ii, jj, y7, y8, ds, bs, rfl, bt, eD, hfd, rd, lf, li, lj, d1, d2, good⟩ ntt
      rw [List.getElem?_map] at hx hy
      obtain ⟨lft, hl, rfl⟩ := Option.map_eq_some_iff.mp hx
      obtain ⟨rgt, hr2, rfl⟩ := Option.map_eq_some_iff.mp hy
      rw [List.getElem?_tail] at hr2
      generalize hh : upd H' tt _ = H9
      have e9 := newEx hh ntt
      have h9 := newAt hh
      clear hh
      have bt := bt.up e9; have eD := eD.trans e9; have hfd := e9 _ _ hfd; have rd := Bds.up e9 rd
      repeat fail "st"
      clear e9 h9
      have ha9 := ex_t eD ha
      have hb9 := ex_t eD hb
      have rs9 := Bds.up eD rs
      have rt9 := Bds.up eD rt
      dsimp (config := { proj := false }) only [List.set]
      refine ⟨fun n σ G => ∃ (mm : Nat), n = ss.length - mm ∧ σ = [some (.ref a0), some (.ref b0), some (.str way), some (.ref pe), some (.ref fd), some (.int (mm : Nat)), some (.int (jj : Nat)), some (.int lft), some (.int rgt), none, none] ∧ H9 = G ∧ ii ≤ mm ∧ mm ≤ ss.length ∧ ∀ (k : Nat) (s : Band), ii ≤ k → k < mm → ss[k]? = some s → s.2.1 ≤ lft, ⟨_, ii, rfl, rfl, rfl, Nat.le_refl _, li, fun k s h1 h2 => absurd h2 (by omega)⟩, ?_⟩
      rintro _ _ _ ⟨mm, rfl, rfl, rfl, km, ml, got⟩
      refine split_test (∃ s, ss[mm]? = some s ∧ s.2.1 ≤ lft) (fun Q h1 h2 => ?_) (fun tp => ?_) (fun fin => ?_)
      · repeat fail "st"
        refine ifD (fun c1 => ?_) (fun c1 => ?_)
        · rw [List.length_map, lq] at c1
          have lm : mm < ss.length := by omega
          obtain ⟨qa, eqa, tcq, hqa', spq⟩ := paired_at2 rs9 (List.getElem?_eq_getElem lm)
          have ixw : ∀ {Q : VK}, Q (.ref qa) H9 → rIx K (.ref a0) (.int (mm : Nat)) H9 Q := fun q => ixT_at (K := K) (j := mm) ha9 rfl (by rw [List.getElem?_map, eqa]; rfl) q
          repeat fail "st"
          refine ixw ?_
          repeat fail "st"
          by_cases c2 : ss[mm].2.1 ≤ lft
          · rw [decide_eq_true c2]
            exact h1 ⟨_, List.getElem?_eq_getElem lm, c2⟩
          · rw [decide_eq_false c2]
            exact h2 fun ⟨s, hs, l⟩ => c2 (by rw [List.getElem?_eq_getElem lm] at hs; cases hs; exact l)
        · rw [List.length_map, lq] at c1
          exact h2 fun ⟨s, hs, l⟩ => by
            have := (List.getElem?_eq_some_iff.mp hs).1
            omega
      · obtain ⟨s0, hs0, l0⟩ := tp
        have lm := (List.getElem?_eq_some_iff.mp hs0).1
        refine iteT (B := True) ⟨fun σ' G' => σ' = [some (.ref a0), some (.ref b0), some (.str way), some (.ref pe), some (.ref fd), some (.int ((mm + 1 : Nat) : Int)), some (.int (jj : Nat)), some (.int lft), some (.int rgt), none, none] ∧ H9 = G', fun σ' G' ⟨e1, e2⟩ => ⟨ss.length - (mm + 1), by omega, mm + 1, rfl, e1, e2, by omega, lm, fun k s h1 h2 hs => ?_⟩, ?_⟩
        · rcases Nat.lt_or_ge k mm with l | l
          · exact got k s h1 l hs
          · obtain rfl : k = mm := by omega
            rw [hs0] at hs
            cases hs
            exact l0
        repeat fail "st"
        rfl
      refine iteF (A := True) ?_
      have ml1 := ml
      have in1 := fun x => ptB_idx (x := x) cs d1 hl got (fun s hs => Int.not_le.mp fun l => fin ⟨s, hs, l⟩)
      refine ⟨fun n σ G => ∃ (nn : Nat), n = ts.length - nn ∧ σ = [some (.ref a0), some (.ref b0), some (.str way), some (.ref pe), some (.ref fd), some (.int (mm : Nat)), some (.int (nn : Nat)), some (.int lft), some (.int rgt), none, none] ∧ H9 = G ∧ jj ≤ nn ∧ nn ≤ ts.length ∧ ∀ (k : Nat) (s : Band), jj ≤ k → k < nn → ts[k]? = some s → s.2.1 ≤ lft, ⟨_, jj, rfl, rfl, rfl, Nat.le_refl _, lj, fun k s h1 h2 => absurd h2 (by omega)⟩, ?_⟩
      rintro _ _ _ ⟨nn, rfl, rfl, rfl, km, ml, got2⟩
      refine split_test (∃ s, ts[nn]? = some s ∧ s.2.1 ≤ lft) (fun Q h1 h2 => ?_) (fun tp => ?_) (fun fin2 => ?_)
      · repeat fail "st"
        refine ifD (fun c1 => ?_) (fun c1 => ?_)
        · rw [List.length_map, lk] at c1
          have lm : nn < ts.length := by omega
          obtain ⟨qa, eqa, tcq, hqa', spq⟩ := paired_at2 rt9 (List.getElem?_eq_getElem lm)
          have ixw : ∀ {Q : VK}, Q (.ref qa) H9 → rIx K (.ref b0) (.int (nn : Nat)) H9 Q := fun q => ixT_at (K := K) (j := nn) hb9 rfl (by rw [List.getElem?_map, eqa]; rfl) q
          repeat fail "st"
          refine ixw ?_
          repeat fail "st"
          by_cases c2 : ts[nn].2.1 ≤ lft
          · rw [decide_eq_true c2]
            exact h1 ⟨_, List.getElem?_eq_getElem lm, c2⟩
          · rw [decide_eq_false c2]
            exact h2 fun ⟨s, hs, l⟩ => c2 (by rw [List.getElem?_eq_getElem lm] at hs; cases hs; exact l)
        · rw [List.length_map, lk] at c1
          exact h2 fun ⟨s, hs, l⟩ => by
            have := (List.getElem?_eq_some_iff.mp hs).1
            omega
      · obtain ⟨s0, hs0, l0⟩ := tp
        have lm := (List.getElem?_eq_some_iff.mp hs0).1
        refine iteT (B := True) ⟨fun σ' G' => σ' = [some (.ref a0), some (.ref b0), some (.str way), some (.ref pe), some (.ref fd), some (.int (mm : Nat)), some (.int ((nn + 1 : Nat) : Int)), some (.int lft), some (.int rgt), none, none] ∧ H9 = G', fun σ' G' ⟨e1, e2⟩ => ⟨ts.length - (nn + 1), by omega, nn + 1, rfl, e1, e2, by omega, lm, fun k s h1 h2 hs => ?_⟩, ?_⟩
        · rcases Nat.lt_or_ge k nn with l | l
          · exact got2 k s h1 l hs
          · obtain rfl : k = nn := by omega
            rw [hs0] at hs
            cases hs
            exact l0
        repeat fail "st"
        rfl
      refine iteF (A := True) ?_
      have in2 := fun x => ptB_idx (x := x) ct d2 hl got2 (fun s hs => Int.not_le.mp fun l => fin2 ⟨s, hs, l⟩)
      repeat fail "st"
      refine ⟨.inl ⟨rfl, _, SqL.of hfd⟩, ?_⟩
      repeat fail "st"
      refine ⟨a0, mm, lft, ss, ⟨qs, ha9, rs9⟩, rfl, fun u1 H10 e10 su1 => ?_⟩
      repeat fail "st"
      refine ⟨b0, nn, lft, ts, ⟨ks, ex_t e10 hb9, Bds.up e10 rt9⟩, rfl, fun u2 H11 e11 su2 => ?_⟩
      repeat fail "st"
      have la := atB_few (k := mm) (y := lft) lss
      have lb := atB_few (k := nn) (y := lft) lts
      refine ⟨u1, u2, atB ss mm lft, atB ts nn lft, way, su1.up e11, su2, rfl, atB_span cs, atB_span ct, by omega, fun tu us H12 e12 stu scu ins lus => ?_⟩
      repeat fail "st"
      intro nt n_nt
      generalize hh : upd _ nt _ = H_nt
      have e_nt := newEx hh n_nt
      have h_nt := newAt hh
      clear hh
      have e13 := e10.trans (e11.trans (e12.trans e_nt))
      have hfd2 := e13 _ _ hfd
      have lds := Paired.length rd
      have lte : t < es.length := (List.getElem?_eq_some_iff.mp hl).1
      have ne : nt ≠ fd := fun z => by rw [z] at n_nt; rw [(e10.trans (e11.trans e12)) _ _ hfd] at n_nt; cases n_nt
      refine ⟨fd, _, _, rfl, rfl, hfd2, Nat.lt_of_lt_of_le (show _ < 6000 by rw [List.length_map]; omega) (by decide), ?_⟩
      refine ⟨mm, nn, _, _, ds ++ [nt], bs ++ [(lft, rgt, us)], rfl, But.mut (bt.up e13), Ex.mut (eD.trans e13) nfd, by rw [upd_same, List.map_append]; rfl, ?_, by rw [List.length_append, lf]; rfl, ml1, ml, d1.next asc hl got, d2.next asc hl got2, fun j c hj => ?_⟩
      · exact bds_snoc ⟨tu, by rw [upd_ne ne]; exact h_nt, spT_but (But.mut But.refl) hfd2 (stu.up e_nt)⟩ (bds_but (But.mut But.refl) hfd2 (Bds.up e13 rd))
      · by_cases k : j < bs.length
        · rw [List.getElem?_append_left k] at hj
          exact good j c hj
        · rw [List.getElem?_append_right (by omega)] at hj
          have z : j - bs.length = 0 := by
            cases y : j - bs.length with
            | zero => rfl
            | succ n => rw [y] at hj; simp at hj
          rw [z] at hj
          have ej : j = t := by omega
          have ec : (lft, rgt, us) = c := Option.some.inj hj
          subst ec ej
          exact ⟨lft, rgt, hl, hr2, rfl, rfl, scu, fun x => by show InS us x ↔ _; rw [ins, in1, in2]⟩
    · rintro _ H' ⟨ii, jj, y7, y8, ds, bs, rfl, bt, eD, hfd, rd, lf, li, lj, d1, d2, good⟩
      rw [List.length_map, ltl] at lf
      obtain ⟨g1, g2, g3⟩ := mix_bands (one := ss) (other := ts) (cs := bs) (w := decide (way = "both")) asc mes' (by
        cases es with
        | nil => exact .inr ⟨rfl, List.length_eq_zero_iff.mp lf⟩
        | cons e es => exact .inl (by rw [lf]; rfl)) good
      repeat fail "st"
      refine ⟨fd, ds, bs, SqL.of hfd, rfl, rd, g1, g2, by omega, fun tu us H4 e4 st sc pt _ _ => ?_⟩
      exact q tu us H4 (eD.trans e4) st sc (fun x y => (pt x y).trans (g3 x y))
end

end K14
namespace K14
open PySem PySem.Spec PyProof.Rows L2 Evl Lw
section
variable {P : Program} {w : World} {K : PySem.W.Frag} {mg : Str → Option Value} {base : Heap} {C : Addr}
def spMix (K : PySem.W.Frag) (C : Addr) (b : Bool) : Sp := fun vs H Q _ => ∃ x y cs ds, RegAt K C H x cs ∧ RegAt K C H y ds ∧ vs = [.ref x, .ref y] ∧ BandC cs ∧ BandC ds ∧ cs.length + ds.length ≤ 2000 ∧ (∀ c ∈ cs, c.2.2.length ≤ 1000) ∧ (∀ c ∈ ds, c.2.2.length ≤ 1000) ∧
  ∀ z es H', Ex H H' → RegAt K C H' z es → BandC es → (∀ u v, PtB es u v ↔ PtB cs u v ∧ (PtB ds u v ↔ b = true)) → Q (.ref z) H'
theorem c_Region___and__ (T : Txt K mg) (cM : Own_Region K mg C) : Lw.DefM P w K mg base CX0 8 C "__and__" "Region.__and__" s_Region___and__ ["self", "other"] (spMix K C true) := by
  refine defM_of (k := 7) cM.m___and__ sc_Region___and__ (fun vs H Q E h => ?_) (fun f cdv A outer s H vs Q E hr h => ?_)
  · obtain ⟨x, y, cs, ds, _, _, rfl, _⟩ := h
    rfl
  · obtain ⟨x, y, cs, ds, ⟨dx, t, hx, bt⟩, ⟨dy, u, hy, bu⟩, rfl, bc, bd, len, l1, l2, q⟩ := h
    have nd := sc_Region___and__.nd
    refine ⟨_, (pss_one (ps_ret (Lw.pe_mkRK (c_Region___init__ T cM) cM.ow.nm hr (by decide) (by rfl) pass0 (pk_cons (Lw.pe_cl (c_mixed_bands T) b_mixed_bands hr (by decide) (by rfl) pass0 (pa_cons (pe_fld (pv 0) rfl) (pa_cons (pe_fld (pv 1) rfl) (pa_cons pe_str pa_nil)))) pk_nil)))), ?_⟩
    repeat fail "st"
    refine ⟨_, _, _, _, _, rfl, hx, cM.ow.cls, cM.ow.no, rfl, ?_⟩
    repeat fail "st"
    refine ⟨_, _, _, _, _, rfl, hy, cM.ow.cls, cM.ow.no, rfl, ?_⟩
    repeat fail "st"
    refine ⟨t, u, cs, ds, "both", bt, bu, rfl, bc, bd, len, l1, l2, fun te es H1 e1 be ec pt => ?_⟩
    repeat fail "st"
    intro x' dx' pp h1 h2 h3 h4
    refine reg_bands be h1 h2 h3 h4 fun H2 e2 rr => ⟨rfl, ?_⟩
    exact q x' es H2 (e1.trans e2) rr ec pt
theorem c_Region___sub__ (T : Txt K mg) (cM : Own_Region K mg C) : Lw.DefM P w K mg base CX0 8 C "__sub__" "Region.__sub__" s_Region___sub__ ["self", "other"] (spMix K C false) := by
  refine defM_of (k := 7) cM.m___sub__ sc_Region___sub__ (fun vs H Q E h => ?_) (fun f cdv A outer s H vs Q E hr h => ?_)
  · obtain ⟨x, y, cs, ds, _, _, rfl, _⟩ := h
    rfl
  · obtain ⟨x, y, cs, ds, ⟨dx, t, hx, bt⟩, ⟨dy, u, hy, bu⟩, rfl, bc, bd, len, l1, l2, q⟩ := h
    have nd := sc_Region___sub__.nd
    refine ⟨_, (pss_one (ps_ret (Lw.pe_mkRK (c_Region___init__ T cM) cM.ow.nm hr (by decide) (by rfl) pass0 (pk_cons (Lw.pe_cl (c_mixed_bands T) b_mixed_bands hr (by decide) (by rfl) pass0 (pa_cons (pe_fld (pv 0) rfl) (pa_cons (pe_fld (pv 1) rfl) (pa_cons pe_str pa_nil)))) pk_nil)))), ?_⟩
    repeat fail "st"
    refine ⟨_, _, _, _, _, rfl, hx, cM.ow.cls, cM.ow.no, rfl, ?_⟩
    repeat fail "st"
    refine ⟨_, _, _, _, _, rfl, hy, cM.ow.cls, cM.ow.no, rfl, ?_⟩
    repeat fail "st"
    refine ⟨t, u, cs, ds, "first", bt, bu, rfl, bc, bd, len, l1, l2, fun te es H1 e1 be ec pt => ?_⟩
    repeat fail "st"
    intro x' dx' pp h1 h2 h3 h4
    refine reg_bands be h1 h2 h3 h4 fun H2 e2 rr => ⟨rfl, ?_⟩
    exact q x' es H2 (e1.trans e2) rr ec pt
theorem eqv_band (a b : Band) : PyData.eqv (datB a) (datB b) = decide (a = b) := by
  obtain ⟨a1, a2, a3⟩ := a
  obtain ⟨b1, b2, b3⟩ := b
  have e := eqv_pts (ps := a3) (qs := b3)
  rw [Bool.eq_iff_iff]
  simp only [datB, PyData.eqv, PyData.eqvAll, e, Bool.and_true, Bool.and_eq_true, decide_eq_true_eq, Prod.mk.injEq, beq_iff_eq]
theorem eqv_bds : ∀ {as bs : List Band}, PyData.eqvAll (as.map datB) (bs.map datB) = decide (as = bs)
  | [], [] => by simp [PyData.eqvAll]
  | [], q :: qs => by simp [PyData.eqvAll]
  | p :: ps, [] => by simp [PyData.eqvAll]
  | p :: ps, q :: qs => by
    rw [List.map_cons, List.map_cons, PyData.eqvAll, eqv_band, eqv_bds (as := ps) (bs := qs), Bool.eq_iff_iff]
    simp
theorem shaped_bdt (bs : List Band) : SeqAt.shaped (.tuple (bs.map datB)) = true := by
  unfold SeqAt.shaped
  rw [PyData.canLay0, PyData.depth, (lay_bds bs).1, decide_eq_true (by have := (lay_bds bs).2; omega)]
  rfl
theorem eq_bdt {H : Hp} {a b : Addr} {cs ds : List Band} {Q : VK} (ha : BdT K H a cs) (hb : BdT K H b ds) (q : Q (.bl (decide (cs = ds))) H) : rEqD K (.ref a) (.ref b) H Q := by
  obtain ⟨qs, h1, r1⟩ := ha
  obtain ⟨ks, h2, r2⟩ := hb
  refine ⟨_, _, .tup h1 (dp_bds r1), .tup h2 (dp_bds r2), shaped_bdt _, shaped_bdt _, ?_⟩
  rw [PyData.eqv, eqv_bds]
  exact q
def spEqG (K : PySem.W.Frag) (C : Addr) : Sp := fun vs H Q _ => ∃ x y cs, RegAt K C H x cs ∧ vs = [.ref x, y] ∧ ((∃ b ds, y = .ref b ∧ RegAt K C H b ds ∧ Q (.bl (decide (cs = ds))) H) ∨ ∃ b ys, y = .ref b ∧ H b = some (.tup ys) ∧ Q (.bl false) H)
theorem c_Region___eq__ (T : Txt K mg) (cM : Own_Region K mg C) : Lw.DefM P w K mg base CX0 1 C "__eq__" "Region.__eq__" s_Region___eq__ ["self", "other"] (spEqG K C) := by
  refine defM_of (k := 0) cM.m___eq__ sc_Region___eq__ (fun vs H Q E h => ?_) (fun f cdv A outer s H vs Q E hr h => ?_)
  · obtain ⟨x, y, cs, _, rfl, _⟩ := h
    rfl
  · obtain ⟨x, yy, cs, ⟨dx, t, hx, bt⟩, rfl, q⟩ := h
    have nd := sc_Region___eq__.nd
    refine ⟨_, (pss_one (ps_ret (pe_and (pe_callB (call_isi) (by rfl) T.b_isinstance bt_isinstance (pa_cons (pv 1) (pa_cons (pe_glob (v := .ref _) (by rfl) cM.ow.nm rfl) pa_nil))) (pe_one (pe_cmpR (op_eqD hr.units) (pe_fld (pv 0) rfl) (pe_fld (pv 1) rfl) (nomark _)))))), ?_⟩
    repeat fail "st"
    rcases q with ⟨b, ds, rfl, ⟨dy, u, hy, bu⟩, q⟩ | ⟨b, ys, rfl, hb, q⟩
    · refine ⟨_, _, _, _, _, rfl, .own C, .base (.ins hy cM.ow.cls cM.ow.kc cM.ow.kg cM.ow.kt cM.ow.ko), cM.ow.ii, ?_⟩
      repeat fail "st"
      refine ⟨_, _, _, _, _, rfl, hx, cM.ow.cls, cM.ow.no, rfl, ?_⟩
      repeat fail "st"
      refine ⟨_, _, _, _, _, rfl, hy, cM.ow.cls, cM.ow.no, rfl, ?_⟩
      repeat fail "st"
      exact eq_bdt bt bu q
    · refine ⟨_, _, _, _, _, rfl, .own C, .base (.tup hb), cM.ow.it, ?_⟩
      repeat fail "st"
      exact q
end

end K14
namespace K14
open PySem PySem.Spec PyProof.Rows L2 Evl Lw
section
variable {P : Program} {w : World} {K : PySem.W.Frag} {mg : Str → Option Value} {base : Heap} {C : Addr}
theorem rectsB_big : ∀ {cs : List Band}, rectsB (cs.map bigBand) = (rectsB cs).map big
  | [] => rfl
  | c :: cs => by
    have ih := rectsB_big (cs := cs)
    show rectsB ([bigBand c] ++ cs.map bigBand) = (rectsB ([c] ++ cs)).map big
    rw [rectsB_app, rectsB_app, rectsB_one, rectsB_one, ih, List.map_append]
    refine congrArg (· ++ _) ?_
    show (c.2.2.map bigS).map _ = _
    rw [List.map_map, List.map_map]
    refine List.map_congr_left fun s _ => ?_
    show ((100000000000 * s.1, 100000000000 * c.1, 100000000000 * s.2 - 100000000000 * s.1, 100000000000 * c.2.1 - 100000000000 * c.1) : Box) = big _
    unfold big
    dsimp only
    rw [Int.mul_sub, Int.mul_sub]
theorem rects_grid {cs : List Band} {X Y : List Int} (bc : BandC cs) (g : Grid X Y (PtB cs)) : (rectsB cs).length ≤ Y.length * X.length := by
  obtain ⟨h1, h2⟩ := few_bands bc g
  refine Nat.le_trans ?_ (Nat.mul_le_mul_right _ h1)
  clear g bc h1
  induction cs with
  | nil => simp [rectsB]
  | cons c cs ih =>
    have i := ih fun d m => h2 d (List.mem_cons_of_mem _ m)
    have l := h2 c List.mem_cons_self
    show (rectsB ([c] ++ cs)).length ≤ (cs.length + 1) * X.length
    rw [rectsB_app, rectsB_one, List.length_append, List.length_map, Nat.succ_mul]
    omega
/-- a region told by a set that changes on a grid alone, near 0 -/
structure Rg (K : PySem.W.Frag) (C : Addr) (X Y : List Int) (H : Hp) (x : Addr) (cs : List Band) (S : Int → Int → Prop) : Prop where
  at_ : RegAt K C H x cs
  bc : BandC cs
  pt : ∀ u v, PtB cs u v ↔ S u v
  gr : Grid X Y S
  lX : X.length ≤ 30
  lY : Y.length ≤ 30
  near : ∀ u v, S u v → (-(2 ^ 62) < u ∧ u < 2 ^ 62) ∧ -(2 ^ 62) < v ∧ v < 2 ^ 62
theorem Rg.up {X Y : List Int} {H H' : Hp} {x : Addr} {cs : List Band} {S : Int → Int → Prop} (r : Rg K C X Y H x cs S) (e : Ex H H') : Rg K C X Y H' x cs S := ⟨r.at_.up e, r.bc, r.pt, r.gr, r.lX, r.lY, r.near⟩
theorem Rg.few {X Y : List Int} {H : Hp} {x : Addr} {cs : List Band} {S : Int → Int → Prop} (r : Rg K C X Y H x cs S) : (rectsB cs).length ≤ 900 ∧ cs.length ≤ 30 ∧ ∀ c ∈ cs, c.2.2.length ≤ 30 := by
  have g := r.gr.congr r.pt
  obtain ⟨h1, h2⟩ := few_bands r.bc g
  have lX := r.lX
  have lY := r.lY
  refine ⟨Nat.le_trans (rects_grid r.bc g) (Nat.le_trans (Nat.mul_le_mul lY lX) (by decide)), by omega, fun c m => Nat.le_trans (h2 c m) lX⟩
theorem or_go {X Y : List Int} {H : Hp} {x y : Addr} {cs ds : List Band} {S T : Int → Int → Prop} {Q : Addr → Hp → Prop} {E : XK} (r : Rg K C X Y H x cs S) (s : Rg K C X Y H y ds T) (q : ∀ z es H', Ex H H' → Rg K C X Y H' z es (fun u v => S u v ∨ T u v) → Q z H') :
    ∃ a dx fs b dy gs, V.ref x = .ref a ∧ H a = some (.ins C dx fs) ∧ V.ref y = .ref b ∧ H b = some (.ins C dy gs) ∧ spOr K C [.ref x, .ref y] H (fun v H' => ∃ b, v = .ref b ∧ Q b H') E := by
  obtain ⟨dx, _, hx, _⟩ := id r.at_
  obtain ⟨dy, _, hy, _⟩ := id s.at_
  have f1 := r.few
  have f2 := s.few
  refine ⟨x, dx, _, y, dy, _, rfl, hx, rfl, hy, x, y, cs, ds, r.at_, s.at_, rfl, by omega, fun z es H' e hz bf => ⟨z, rfl, q z es H' e ⟨hz, bf.1, fun u v => (bf.2.1 u v).trans ?_, r.gr.or s.gr, r.lX, r.lY, fun u v h => h.elim (r.near u v) (s.near u v)⟩⟩⟩
  constructor
  · rintro ⟨b, m, h⟩
    rcases List.mem_append.mp m with m | m
    · exact .inl ((r.pt u v).mp (rectsB_in.mp ⟨b, m, h⟩))
    · exact .inr ((s.pt u v).mp (rectsB_in.mp ⟨b, m, h⟩))
  · rintro (h | h)
    · obtain ⟨b, m, h⟩ := rectsB_in.mpr ((r.pt u v).mpr h)
      exact ⟨b, List.mem_append_left _ m, h⟩
    · obtain ⟨b, m, h⟩ := rectsB_in.mpr ((s.pt u v).mpr h)
      exact ⟨b, List.mem_append_right _ m, h⟩
theorem and_go {X Y : List Int} {H : Hp} {x y : Addr} {cs ds : List Band} {S T : Int → Int → Prop} {Q : Addr → Hp → Prop} {E : XK} (r : Rg K C X Y H x cs S) (s : Rg K C X Y H y ds T) (q : ∀ z es H', Ex H H' → Rg K C X Y H' z es (fun u v => S u v ∧ T u v) → Q z H') :
    ∃ a dx fs b dy gs, V.ref x = .ref a ∧ H a = some (.ins C dx fs) ∧ V.ref y = .ref b ∧ H b = some (.ins C dy gs) ∧ spMix K C true [.ref x, .ref y] H (fun v H' => ∃ b, v = .ref b ∧ Q b H') E := by
  obtain ⟨dx, _, hx, _⟩ := id r.at_
  obtain ⟨dy, _, hy, _⟩ := id s.at_
  obtain ⟨_, f1, g1⟩ := r.few
  obtain ⟨_, f2, g2⟩ := s.few
  refine ⟨x, dx, _, y, dy, _, rfl, hx, rfl, hy, x, y, cs, ds, r.at_, s.at_, rfl, r.bc, s.bc, by omega, fun c m => Nat.le_trans (g1 c m) (by decide), fun c m => Nat.le_trans (g2 c m) (by decide), fun z es H' e hz bc pt => ⟨z, rfl, q z es H' e ⟨hz, bc, fun u v => (pt u v).trans ?_, r.gr.and s.gr, r.lX, r.lY, fun u v h => r.near u v h.1⟩⟩⟩
  rw [r.pt, s.pt]
  simp
theorem sub_go {X Y : List Int} {H : Hp} {x y : Addr} {cs ds : List Band} {S T : Int → Int → Prop} {Q : Addr → Hp → Prop} {E : XK} (r : Rg K C X Y H x cs S) (s : Rg K C X Y H y ds T) (q : ∀ z es H', Ex H H' → Rg K C X Y H' z es (fun u v => S u v ∧ ¬ T u v) → Q z H') :
    ∃ a dx fs b dy gs, V.ref x = .ref a ∧ H a = some (.ins C dx fs) ∧ V.ref y = .ref b ∧ H b = some (.ins C dy gs) ∧ spMix K C false [.ref x, .ref y] H (fun v H' => ∃ b, v = .ref b ∧ Q b H') E := by
  obtain ⟨dx, _, hx, _⟩ := id r.at_
  obtain ⟨dy, _, hy, _⟩ := id s.at_
  obtain ⟨_, f1, g1⟩ := r.few
  obtain ⟨_, f2, g2⟩ := s.few
  refine ⟨x, dx, _, y, dy, _, rfl, hx, rfl, hy, x, y, cs, ds, r.at_, s.at_, rfl, r.bc, s.bc, by omega, fun c m => Nat.le_trans (g1 c m) (by decide), fun c m => Nat.le_trans (g2 c m) (by decide), fun z es H' e hz bc pt => ⟨z, rfl, q z es H' e ⟨hz, bc, fun u v => (pt u v).trans ?_, r.gr.and s.gr.not, r.lX, r.lY, fun u v h => r.near u v h.1⟩⟩⟩
  rw [r.pt, s.pt]
  simp
theorem Rg.same {X Y : List Int} {H H' : Hp} {x y : Addr} {cs ds : List Band} {S T : Int → Int → Prop} (r : Rg K C X Y H x cs S) (s : Rg K C X Y H' y ds T) (h : ∀ u v, S u v ↔ T u v) : cs = ds := band_uniq r.bc s.bc fun u v => (r.pt u v).trans ((h u v).trans (s.pt u v).symm)
theorem Rg.nil {X Y : List Int} {H : Hp} {x : Addr} {cs : List Band} {S : Int → Int → Prop} (r : Rg K C X Y H x cs S) (h : ∀ u v, ¬ S u v) : rectsB cs = [] := by
  have := (rectsB_nil (ps := []) r.bc fun u v => ⟨fun p => absurd ((r.pt u v).mp p) (h u v), fun m => by cases m⟩).mpr rfl
  exact List.length_eq_zero_iff.mp this
theorem eq_go {X Y : List Int} {H : Hp} {x y : Addr} {cs ds : List Band} {S T : Int → Int → Prop} {Q : Bool → Hp → Prop} {E : XK} (r : Rg K C X Y H x cs S) (s : Rg K C X Y H y ds T) (h : ∀ u v, S u v ↔ T u v) (q : Q true H) :
    ∃ a dx fs, V.ref x = .ref a ∧ H a = some (.ins C dx fs) ∧ Other C (.ref y) H ∧ spEqG K C [.ref x, .ref y] H (fun v H' => ∃ b, v = .bl b ∧ Q b H') E := by
  obtain ⟨dx, _, hx, _⟩ := id r.at_
  obtain ⟨dy, _, hy, _⟩ := id s.at_
  exact ⟨x, dx, _, rfl, hx, .inl ⟨y, dy, _, rfl, hy⟩, x, .ref y, cs, r.at_, rfl, .inl ⟨y, ds, rfl, s.at_, _, rfl, by rw [decide_eq_true (r.same s h)]; exact q⟩⟩
theorem pts_go {X Y : List Int} {H : Hp} {x : Addr} {cs : List Band} {S : Int → Int → Prop} {Q : VK} {E : XK} (r : Rg K C X Y H x cs S) (q : ∀ H', Ex H H' → Q (.int (countB cs)) H') : ∃ a dx fs, V.ref x = .ref a ∧ H a = some (.ins C dx fs) ∧ spPoints K C [.ref a] H Q E := by
  obtain ⟨dx, _, hx, _⟩ := id r.at_
  have f := r.few
  exact ⟨x, dx, _, rfl, hx, x, cs, r.at_, rfl, by omega, r.bc, fun u v h => r.near u v ((r.pt u v).mp h), q⟩
theorem rects_go {X Y : List Int} {H : Hp} {x : Addr} {cs : List Band} {S : Int → Int → Prop} {Q : VK} {E : XK} (r : Rg K C X Y H x cs S) (q : ∀ t js H', Ex H H' → H' t = some (.tup (js.map V.ref)) → Boxes H' js (rectsB cs) → Q (.ref t) H') : ∃ a dx fs, V.ref x = .ref a ∧ H a = some (.ins C dx fs) ∧ spRects K C [.ref a] H Q E := by
  obtain ⟨dx, _, hx, _⟩ := id r.at_
  have f := r.few
  exact ⟨x, dx, _, rfl, hx, x, cs, r.at_, rfl, by omega, q⟩
theorem len_go {X Y : List Int} {H : Hp} {x : Addr} {cs : List Band} {S : Int → Int → Prop} {Q : Int → Hp → Prop} {E : XK} (r : Rg K C X Y H x cs S) (q : ∀ H', Ex H H' → Q (rectsB cs).length H') : ∃ a dx fs, [V.ref x] = [.ref a] ∧ H a = some (.ins C dx fs) ∧ spLen K C [.ref a] H (fun v H' => ∃ n : Int, v = .int n ∧ 0 ≤ n ∧ n < 2 ^ 63 ∧ Q n H') E := by
  obtain ⟨dx, _, hx, _⟩ := id r.at_
  have f := r.few
  exact ⟨x, dx, _, rfl, hx, x, cs, r.at_, rfl, by omega, fun H' e => ⟨_, rfl, by omega, by omega, q H' e⟩⟩
theorem near_boxes {bs : List Box} (good : ∀ b ∈ bs, GoodBox b) : ∀ u v : Int, (∃ b ∈ bs, InBox b (u, v)) → (-(2 ^ 62) < u ∧ u < 2 ^ 62) ∧ -(2 ^ 62) < v ∧ v < 2 ^ 62 := fun u v ⟨b, m, h⟩ => by
  have g := good b m
  unfold GoodBox at g
  unfold InBox at h
  dsimp only at h
  omega
end

end K14
namespace K14
open PySem PySem.Spec PyProof.Rows L2 Evl Lw
section
variable {P : Program} {w : World} {K : PySem.W.Frag} {mg : Str → Option Value} {base : Heap} {C : Addr}
theorem c_Mirror___init__ (T : Txt K mg) (cM : Own_Mirror K mg C) : Lw.DefI P w K mg base CX0 2 C "Mirror.__init__" s_Mirror___init__ [("across", .bl false), ("down", .bl false)] ["self", "x", "y", "across", "down"] (spMkM C) := by
  refine defI_of (k := 1) cM.ini sc_Mirror___init__ (fun vs H Q E h => ?_) (fun f cdv A outer s H vs Q E hr h => ?_)
  · obtain ⟨a, dx, x, y, o, d, rfl, _⟩ := h
    rfl
  · obtain ⟨a, dx, x, y, o, d, rfl, ha, q⟩ := h
    have nd := sc_Mirror___init__.nd
    refine ⟨_, (pss_cons (ps_if (pt_not (pt_val (Lw.pe_cl (c_is_integer T) b_is_integer hr (by decide) (by rfl) pass0 (pa_cons (pv 1) pa_nil)))) (pss_one Lw.ps_dead) pss_nil)
      (pss_cons (ps_if (pt_not (pt_val (Lw.pe_cl (c_is_integer T) b_is_integer hr (by decide) (by rfl) pass0 (pa_cons (pv 2) pa_nil)))) (pss_one Lw.ps_dead) pss_nil)
      (pss_one (ps_fld (pv 0) (pe_tup (pa_cons (pe_tup (pa_cons (pv 1) (pa_cons (pv 3) pa_nil))) (pa_cons (pe_tup (pa_cons (pv 2) (pa_cons (pv 4) pa_nil))) pa_nil))) rfl)))), ?_⟩
    repeat fail "st"
    intro r1 n_r1
    generalize hh : upd _ r1 _ = H_r1
    have e_r1 := newEx hh n_r1
    have h_r1 := newAt hh
    clear hh
    repeat fail "st"
    intro r2 n_r2
    generalize hh : upd _ r2 _ = H_r2
    have e_r2 := newEx hh n_r2
    have h_r2 := newAt hh
    clear hh
    repeat fail "st"
    intro t n_t
    generalize hh : upd _ t _ = H_t
    have e_t := newEx hh n_t
    have h_t := newAt hh
    clear hh
    repeat fail "st"
    have h1 := e_t _ _ (e_r2 _ _ h_r1)
    have h2 := e_t _ _ h_r2
    have ha' := e_t _ _ (e_r2 _ _ (e_r1 _ _ ha))
    refine ⟨_, _, _, _, rfl, ha', cM.ow.cls, cM.ow.no, by decide, ?_⟩
    have up : ∀ b u, b ≠ a → H b = some u → upd H_t a (.ins C dx [("lines", .ref t)]) b = some u := fun b u ne hb => by
      rw [upd_ne ne]
      exact e_t _ _ (e_r2 _ _ (e_r1 _ _ hb))
    have na : ∀ {z o}, H_t z = some o → (∀ xs, o = HO.tup xs → z ≠ a) := fun {z o} hz xs e n => by
      rw [n, ha'] at hz
      cases hz
      cases e
    exact q _ up ⟨dx, t, r1, r2, upd_same, by rw [upd_ne (na h_t _ rfl)]; exact h_t, by rw [upd_ne (na h1 _ rfl)]; exact h1, by rw [upd_ne (na h2 _ rfl)]; exact h2⟩
theorem c_Mirror___call__ (T : Txt K mg) (cM : Own_Mirror K mg C) : Lw.DefM P w K mg base CX0 1 C "__call__" "Mirror.__call__" s_Mirror___call__ ["self", "u", "v"] (spCallM C) := by
  refine defM_of (k := 0) cM.m___call__ sc_Mirror___call__ (fun vs H Q E h => ?_) (fun f cdv A outer s H vs Q E hr h => ?_)
  · obtain ⟨a, l, r, u, v, _, rfl, _⟩ := h
    rfl
  · obtain ⟨a, ⟨x, o⟩, ⟨y, d⟩, u, v, ⟨dx, t, r1, r2, ha, ht, h1, h2⟩, rfl, q⟩ := h
    have nd := sc_Mirror___call__.nd
    replace h1 : H r1 = some (.tup [.int x, .bl o]) := h1
    replace h2 : H r2 = some (.tup [.int y, .bl d]) := h2
    refine ⟨_, (pss_cons (ps_asg (pe_fld (pv 0) rfl) (pg_tup rfl (pgs_cons (pg_tup rfl (pgs_cons (pg_name (i := 3) nd rfl (Or.inl rfl)) (pgs_cons (pg_name (i := 4) nd rfl (Or.inl rfl)) pgs_nil))) (pgs_cons (pg_tup rfl (pgs_cons (pg_name (i := 5) nd rfl (Or.inl rfl)) (pgs_cons (pg_name (i := 6) nd rfl (Or.inl rfl)) pgs_nil))) pgs_nil))))
      (pss_one (ps_ret (pe_tup (pa_cons (pe_ifExp (pt_val (pv 4)) (pe_op op_sub (pv 3) (pv 1)) (pe_op op_add (pv 3) (pv 1))) (pa_cons (pe_ifExp (pt_val (pv 6)) (pe_op op_sub (pv 5) (pv 2)) (pe_op op_add (pv 5) (pv 2))) pa_nil)))))), ?_⟩
    repeat fail "st"
    refine ⟨_, _, _, _, _, rfl, ha, cM.ow.cls, cM.ow.no, rfl, ?_⟩
    repeat fail "st"
    refine ifB (fun ho => ?_) (fun ho => ?_) <;> subst ho <;> repeat fail "st"
    all_goals refine ifB (fun hd => ?_) (fun hd => ?_) <;> subst hd <;> repeat fail "st"
    all_goals
      intro p np
      exact q p _ (Ex.new np) upd_same
theorem eq_lines {H : Hp} {t t' r1 r2 r1' r2' : Addr} {l r l' r' : Int × Bool} {Q : VK} (ht : H t = some (.tup [.ref r1, .ref r2])) (h1 : H r1 = some (.tup [.int l.1, .bl l.2])) (h2 : H r2 = some (.tup [.int r.1, .bl r.2]))
    (ht' : H t' = some (.tup [.ref r1', .ref r2'])) (h1' : H r1' = some (.tup [.int l'.1, .bl l'.2])) (h2' : H r2' = some (.tup [.int r'.1, .bl r'.2])) (q : Q (.bl (decide (l = l' ∧ r = r'))) H) : rEqD K (.ref t) (.ref t') H Q := by
  have dl : ∀ {a b c : Addr} {m n : Int × Bool}, H a = some (.tup [.ref b, .ref c]) → H b = some (.tup [.int m.1, .bl m.2]) → H c = some (.tup [.int n.1, .bl n.2]) → Dp K H (.ref a) (.tuple [.tuple [.int m.1, .bool m.2], .tuple [.int n.1, .bool n.2]]) :=
    fun ha hb hc => .tup (SqT.of ha) (.cons (.tup (SqT.of hb) (.cons (.int _) (.cons (.bl _) .nil))) (.cons (.tup (SqT.of hc) (.cons (.int _) (.cons (.bl _) .nil))) .nil))
  have sh : ∀ m n : Int × Bool, SeqAt.shaped (.tuple [.tuple [.int m.1, .bool m.2], .tuple [.int n.1, .bool n.2]]) = true := fun m n => by simp [SeqAt.shaped, PyData.canLay0, PyData.canLayAll0, PyData.depth, PyData.depthAll]
  refine ⟨_, _, dl ht h1 h2, dl ht' h1' h2', sh _ _, sh _ _, ?_⟩
  have e : PyData.eqv (.tuple [.tuple [.int l.1, .bool l.2], .tuple [.int r.1, .bool r.2]]) (.tuple [.tuple [.int l'.1, .bool l'.2], .tuple [.int r'.1, .bool r'.2]]) = decide (l = l' ∧ r = r') := by
    obtain ⟨a, b⟩ := l
    obtain ⟨c, d⟩ := r
    obtain ⟨a', b'⟩ := l'
    obtain ⟨c', d'⟩ := r'
    rw [Bool.eq_iff_iff]
    simp [PyData.eqv, PyData.eqvAll, Prod.ext_iff, and_assoc]
  rw [e]
  exact q
theorem c_Mirror___eq__ (T : Txt K mg) (cM : Own_Mirror K mg C) : Lw.DefM P w K mg base CX0 1 C "__eq__" "Mirror.__eq__" s_Mirror___eq__ ["self", "other"] (spEqM C) := by
  refine defM_of (k := 0) cM.m___eq__ sc_Mirror___eq__ (fun vs H Q E h => ?_) (fun f cdv A outer s H vs Q E hr h => ?_)
  · obtain ⟨a, l, r, y, _, rfl, _⟩ := h
    rfl
  · obtain ⟨a, l, r, yy, ⟨dx, t, r1, r2, ha, ht, h1, h2⟩, rfl, q⟩ := h
    have nd := sc_Mirror___eq__.nd
    refine ⟨_, (pss_one (ps_ret (pe_and (pe_callB (call_isi) (by rfl) T.b_isinstance bt_isinstance (pa_cons (pv 1) (pa_cons (pe_glob (v := .ref _) (by rfl) cM.ow.nm rfl) pa_nil))) (pe_one (pe_cmpR (op_eqD hr.units) (pe_fld (pv 0) rfl) (pe_fld (pv 1) rfl) (nomark _)))))), ?_⟩
    repeat fail "st"
    rcases q with ⟨b, l', r', rfl, ⟨dx', t', r1', r2', ha', ht', h1', h2'⟩, q⟩ | ⟨b, ys, rfl, hb, q⟩
    · refine ⟨_, _, _, _, _, rfl, .own C, .base (.ins ha' cM.ow.cls cM.ow.kc cM.ow.kg cM.ow.kt cM.ow.ko), cM.ow.ii, ?_⟩
      repeat fail "st"
      refine ⟨_, _, _, _, _, rfl, ha, cM.ow.cls, cM.ow.no, rfl, ?_⟩
      repeat fail "st"
      refine ⟨_, _, _, _, _, rfl, ha', cM.ow.cls, cM.ow.no, rfl, ?_⟩
      repeat fail "st"
      exact eq_lines ht h1 h2 ht' h1' h2' q
    · refine ⟨_, _, _, _, _, rfl, .own C, .base (.tup hb), cM.ow.it, ?_⟩
      repeat fail "st"
      exact q
end

end K14
namespace K14
open PySem PySem.Spec PyProof.Rows L2 Evl Lw
section
variable {P : Program} {w : World} {K : PySem.W.Frag} {mg : Str → Option Value} {base : Heap} {C : Addr}
theorem ne_bl (a b : Bool) : (!decide (V.bl a = V.bl b)) = decide (a ≠ b) := by cases a <;> cases b <;> simp
theorem c_Mirror___mul__ (T : Txt K mg) (cM : Own_Mirror K mg C) : Lw.DefM P w K mg base CX0 4 C "__mul__" "Mirror.__mul__" s_Mirror___mul__ ["self", "other"] (spMulM C) := by
  refine defM_of (k := 3) cM.m___mul__ sc_Mirror___mul__ (fun vs H Q E h => ?_) (fun f cdv A outer s H vs Q E hr h => ?_)
  · obtain ⟨a, b, l, r, l', r', _, _, rfl, _⟩ := h
    rfl
  · obtain ⟨a, b, ⟨x, o⟩, ⟨y, d⟩, ⟨u, p⟩, ⟨v, i⟩, ⟨dx, t, r1, r2, ha, ht, h1, h2⟩, ⟨dx', t', r1', r2', ha', ht', h1', h2'⟩, rfl, q⟩ := h
    have nd := sc_Mirror___mul__.nd
    replace h1 : H r1 = some (.tup [.int x, .bl o]) := h1
    replace h2 : H r2 = some (.tup [.int y, .bl d]) := h2
    replace h1' : H r1' = some (.tup [.int u, .bl p]) := h1'
    replace h2' : H r2' = some (.tup [.int v, .bl i]) := h2'
    refine ⟨_, (pss_cons (ps_asg (pe_fld (pv 0) rfl) (pg_tup rfl (pgs_cons (pg_tup rfl (pgs_cons (pg_name (i := 2) nd rfl (Or.inl rfl)) (pgs_cons (pg_name (i := 3) nd rfl (Or.inl rfl)) pgs_nil))) (pgs_cons (pg_tup rfl (pgs_cons (pg_name (i := 4) nd rfl (Or.inl rfl)) (pgs_cons (pg_name (i := 5) nd rfl (Or.inl rfl)) pgs_nil))) pgs_nil))))
      (pss_cons (ps_asg (pe_fld (pv 1) rfl) (pg_tup rfl (pgs_cons (pg_tup rfl (pgs_cons (pg_name (i := 6) nd rfl (Or.inl rfl)) (pgs_cons (pg_name (i := 7) nd rfl (Or.inl rfl)) pgs_nil))) (pgs_cons (pg_tup rfl (pgs_cons (pg_name (i := 8) nd rfl (Or.inl rfl)) (pgs_cons (pg_name (i := 9) nd rfl (Or.inl rfl)) pgs_nil))) pgs_nil))))
      (pss_one (ps_ret (Lw.pe_mkI (g := fun {_} => gk_bi_Mirror___init___2_across_down) (c_Mirror___init__ T cM) bi_Mirror___init___2_across_down rk_bi_Mirror___init___2_across_down (by simp) (by simp) cM.ow.nm hr (by decide) (by rfl) pass0 (pa_cons (pe_ifExp (pt_val (pv 3)) (pe_op op_sub (pv 2) (pv 6)) (pe_op op_add (pv 2) (pv 6))) (pa_cons (pe_ifExp (pt_val (pv 5)) (pe_op op_sub (pv 4) (pv 8)) (pe_op op_add (pv 4) (pv 8))) pa_nil)) (pk_cons (pe_cmpR op_ne (pv 3) (pv 7) (nomark _)) (pk_cons (pe_cmpR op_ne (pv 5) (pv 9) (nomark _)) pk_nil))))))), ?_⟩
    repeat fail "st"
    refine ⟨_, _, _, _, _, rfl, ha, cM.ow.cls, cM.ow.no, rfl, ?_⟩
    repeat fail "st"
    refine ⟨_, _, _, _, _, rfl, ha', cM.ow.cls, cM.ow.no, rfl, ?_⟩
    repeat fail "st"
    refine ifB (fun ho => ?_) (fun ho => ?_) <;> subst ho <;> repeat fail "st"
    all_goals refine ifB (fun hd => ?_) (fun hd => ?_) <;> subst hd <;> repeat fail "st"
    all_goals
      refine mir_made fun c H' e m => ?_
      rw [ne_bl, ne_bl] at m
      exact q c H' e m
theorem c_Mirror___invert__ (T : Txt K mg) (cM : Own_Mirror K mg C) : Lw.DefM P w K mg base CX0 4 C "__invert__" "Mirror.__invert__" s_Mirror___invert__ ["self"] (spInvM C) := by
  refine defM_of (k := 3) cM.m___invert__ sc_Mirror___invert__ (fun vs H Q E h => ?_) (fun f cdv A outer s H vs Q E hr h => ?_)
  · obtain ⟨a, l, r, _, rfl, _⟩ := h
    rfl
  · obtain ⟨a, ⟨x, o⟩, ⟨y, d⟩, ⟨dx, t, r1, r2, ha, ht, h1, h2⟩, rfl, q⟩ := h
    have nd := sc_Mirror___invert__.nd
    replace h1 : H r1 = some (.tup [.int x, .bl o]) := h1
    replace h2 : H r2 = some (.tup [.int y, .bl d]) := h2
    refine ⟨_, (pss_cons (ps_asg (pe_fld (pv 0) rfl) (pg_tup rfl (pgs_cons (pg_tup rfl (pgs_cons (pg_name (i := 1) nd rfl (Or.inl rfl)) (pgs_cons (pg_name (i := 2) nd rfl (Or.inl rfl)) pgs_nil))) (pgs_cons (pg_tup rfl (pgs_cons (pg_name (i := 3) nd rfl (Or.inl rfl)) (pgs_cons (pg_name (i := 4) nd rfl (Or.inl rfl)) pgs_nil))) pgs_nil))))
      (pss_one (ps_ret (Lw.pe_mkI (g := fun {_} => gk_bi_Mirror___init___2_across_down) (c_Mirror___init__ T cM) bi_Mirror___init___2_across_down rk_bi_Mirror___init___2_across_down (by simp) (by simp) cM.ow.nm hr (by decide) (by rfl) pass0 (pa_cons (pe_ifExp (pt_val (pv 2)) (pv 1) (pe_un un_neg (pv 1))) (pa_cons (pe_ifExp (pt_val (pv 4)) (pv 3) (pe_un un_neg (pv 3))) pa_nil)) (pk_cons (pv 2) (pk_cons (pv 4) pk_nil)))))), ?_⟩
    repeat fail "st"
    refine ⟨_, _, _, _, _, rfl, ha, cM.ow.cls, cM.ow.no, rfl, ?_⟩
    repeat fail "st"
    refine ifB (fun ho => ?_) (fun ho => ?_) <;> subst ho <;> repeat fail "st"
    all_goals refine ifB (fun hd => ?_) (fun hd => ?_) <;> subst hd <;> repeat fail "st"
    all_goals
      refine mir_made fun c H' e m => ?_
      exact q c H' e m
end

end K14
namespace K14
open PySem PySem.Spec PyProof.Rows L2 Evl Lw
section
variable {P : Program} {w : World} {K : PySem.W.Frag} {mg : Str → Option Value} {base : Heap} {C : Addr}
/-- the first place to which a stretch is taken -/
def lst (l : Int × Bool) (s w : Int) : Int := if l.2 = true then l.1 - s - w + 1 else l.1 + s
def spStart : Sp := fun vs H Q _ => ∃ (l : Int × Bool) (s w : Int), vs = [.int s, .int w, .int l.1, .bl l.2] ∧ Q (.int (lst l s w)) H
theorem c_line_start (T : Txt K mg) : Cl P w K mg base CX0 1 "line_start" s_line_start ["start", "extent", "offset", "turned"] spStart := by
  refine cl_of (k := 0) T.d_line_start sc_line_start (fun vs H Q E h => ?_) (fun f cdv A outer s H vs Q E hr h => ?_)
  · obtain ⟨l, s, w', rfl, _⟩ := h
    rfl
  · obtain ⟨⟨l, o⟩, s', w', rfl, q⟩ := h
    have nd := sc_line_start.nd
    refine ⟨_, (pss_one (ps_ret (pe_ifExp (pt_val (pv 3)) (pe_op op_add (pe_op op_sub (pe_op op_sub (pv 2) (pv 0)) (pv 1)) pe_int) (pe_op op_add (pv 2) (pv 0))))), ?_⟩
    repeat fail "st"
    refine ifB (fun ho => ?_) (fun ho => ?_)
    · subst ho
      repeat fail "st"
      exact q
    · subst ho
      repeat fail "st"
      exact q
def spMoved (C : Addr) : Sp := fun vs H Q _ => ∃ a l r p b, MI C H a l r ∧ BoxAt H p b ∧ vs = [.ref a, .ref p] ∧ ∀ q H', Ex H H' → BoxAt H' q (lst l b.1 b.2.2.1, lst r b.2.1 b.2.2.2, b.2.2.1, b.2.2.2) → Q (.ref q) H'
theorem c_Mirror_moved (T : Txt K mg) (cM : Own_Mirror K mg C) : Lw.DefM P w K mg base CX0 2 C "moved" "Mirror.moved" s_Mirror_moved ["self", "rect"] (spMoved C) := by
  refine defM_of (k := 1) cM.m_moved sc_Mirror_moved (fun vs H Q E h => ?_) (fun f cdv A outer s H vs Q E hr h => ?_)
  · obtain ⟨a, l, r, p, b, _, _, rfl, _⟩ := h
    rfl
  · obtain ⟨a, ⟨x, o⟩, ⟨y, d⟩, p, ⟨b1, b2, b3, b4⟩, ⟨dx, t, r1, r2, ha, ht, h1, h2⟩, hp, rfl, q⟩ := h
    have nd := sc_Mirror_moved.nd
    replace h1 : H r1 = some (.tup [.int x, .bl o]) := h1
    replace h2 : H r2 = some (.tup [.int y, .bl d]) := h2
    replace hp : H p = some (.tup [.int b1, .int b2, .int b3, .int b4]) := hp
    refine ⟨_, (pss_cons (ps_asg (pe_fld (pv 0) rfl) (pg_tup rfl (pgs_cons (pg_tup rfl (pgs_cons (pg_name (i := 2) nd rfl (Or.inl rfl)) (pgs_cons (pg_name (i := 3) nd rfl (Or.inl rfl)) pgs_nil))) (pgs_cons (pg_tup rfl (pgs_cons (pg_name (i := 4) nd rfl (Or.inl rfl)) (pgs_cons (pg_name (i := 5) nd rfl (Or.inl rfl)) pgs_nil))) pgs_nil))))
      (pss_one (ps_ret (pe_tup (pa_cons (Lw.pe_cl (c_line_start T) b_line_start hr (by decide) (by rfl) pass0 (pa_cons (pe_ix ix_seq (pv 1) pe_int (fun _ _ => rfl)) (pa_cons (pe_ix ix_seq (pv 1) pe_int (fun _ _ => rfl)) (pa_cons (pv 2) (pa_cons (pv 3) pa_nil))))) (pa_cons (Lw.pe_cl (c_line_start T) b_line_start hr (by decide) (by rfl) pass0 (pa_cons (pe_ix ix_seq (pv 1) pe_int (fun _ _ => rfl)) (pa_cons (pe_ix ix_seq (pv 1) pe_int (fun _ _ => rfl)) (pa_cons (pv 4) (pa_cons (pv 5) pa_nil))))) (pa_cons (pe_ix ix_seq (pv 1) pe_int (fun _ _ => rfl)) (pa_cons (pe_ix ix_seq (pv 1) pe_int (fun _ _ => rfl)) pa_nil)))))))), ?_⟩
    repeat fail "st"
    refine ⟨_, _, _, _, _, rfl, ha, cM.ow.cls, cM.ow.no, rfl, ?_⟩
    repeat fail "st"
    refine ⟨(x, o), _, _, rfl, ?_⟩
    repeat fail "st"
    refine ⟨(y, d), _, _, rfl, ?_⟩
    repeat fail "st"
    intro t n_t
    generalize hh : upd _ t _ = H_t
    have e_t := newEx hh n_t
    have h_t := newAt hh
    clear hh
    exact q t _ e_t h_t
def spImage (C : Addr) : Sp := fun vs H Q _ => ∃ a l r p b, MI C H a l r ∧ BoxAt H p b ∧ vs = [.ref a, .ref p] ∧ GoodBox b ∧ ∀ q H', Ex H H' → BoxAt H' q (lst l b.1 b.2.2.1, lst r b.2.1 b.2.2.2, b.2.2.1, b.2.2.2) → Q (.ref q) H'
theorem c_Mirror_image (T : Txt K mg) (cM : Own_Mirror K mg C) : Lw.DefM P w K mg base CX0 6 C "image" "Mirror.image" s_Mirror_image ["self", "rect"] (spImage C) := by
  refine defM_of (k := 5) cM.m_image sc_Mirror_image (fun vs H Q E h => ?_) (fun f cdv A outer s H vs Q E hr h => ?_)
  · obtain ⟨a, l, r, p, b, _, _, rfl, _⟩ := h
    rfl
  · obtain ⟨a, l, r, p, b, mi, hp, rfl, gb, q⟩ := h
    have nd := sc_Mirror_image.nd
    refine ⟨_, (pss_cons (ps_expr (Lw.pe_cl (c_check_rect T) b_check_rect hr (by decide) (by rfl) pass0 (pa_cons (pv 1) pa_nil)))
      (pss_one (ps_ret (Lw.pe_om (pv 0) cM.ow.cls (c_Mirror_moved T cM) bm_Mirror_moved hr (by decide) pass0 (pa_cons (pv 1) pa_nil))))), ?_⟩
    repeat fail "st"
    refine ⟨_, _, hp, rfl, gb, ?_⟩
    repeat fail "st"
    obtain ⟨dx, t, r1, r2, ha, ht, h1, h2⟩ := id mi
    refine ⟨_, _, _, rfl, ha, rfl, ?_⟩
    repeat fail "st"
    exact ⟨_, l, r, _, b, mi, hp, rfl, q⟩
end

end K14
namespace K14
open PySem PySem.Spec PyProof.Rows L2 Evl Lw
section
variable {P : Program} {w : World} {K : PySem.W.Frag} {mg : Str → Option Value} {base : Heap} {C : Addr}
def growX (g : Bool) (b : Box) : Box := if g then big b else b
def facX (g : Bool) : Int := if g then 100000000000 else 1
theorem map_grow0 (bs : List Box) : bs.map (growX false) = bs := by
  induction bs with
  | nil => rfl
  | cons b bs ih => rw [List.map_cons, ih]; rfl
theorem map_grow1 (bs : List Box) : bs.map (growX true) = bs.map big := rfl
theorem cons_one {t : TE} {σ : L2.St} {H : Hp} {R : List V → Hp → Prop} (h : t σ H fun v H1 => R [v] H1) : tCons t tNil σ H R := h
theorem call_of {sp : Sp} {dvs : List V} {E : XK} {t : TA} {σ : L2.St} {H : Hp} {Q : VK} (h : t σ H fun vs H1 => sp (vs ++ dvs) H1 Q E) : tCall sp dvs E t σ H Q := h
theorem gname_of {i : Nat} {v : V} {σ : L2.St} {H : Hp} {k : L2.St → Hp → Prop} (h : k (σ.set i (some v)) H) : gName i v σ H k := h
theorem split_if {g : Bool} {t e : TE} {σ : L2.St} {H : Hp} {R : VK} (S : V → Hp → Prop) (k1 : g = true → ∀ Q : VK, (∀ v H', S v H' → Q v H') → t σ H Q) (k2 : g = false → ∀ Q : VK, (∀ v H', S v H' → Q v H') → e σ H Q) (h : ∀ v H', S v H' → R v H') : if g = true then t σ H R else e σ H R := by
  cases g with
  | true => exact k1 rfl R h
  | false => exact k2 rfl R h
theorem norm_grow (g : Bool) (bs : List Box) : ∃ h, bs.map (growX h) = bs.map (growX g) ∧ (h = false ↔ bs.map (growX h) = bs) := by
  by_cases c : bs.map (growX g) = bs
  · exact ⟨false, by rw [map_grow0, c], by simp [map_grow0]⟩
  · refine ⟨g, rfl, ?_⟩
    cases g with
    | false => exact absurd (map_grow0 bs) c
    | true => simp [c]
theorem good_grow {g : Bool} {bs : List Box} (h : ∀ b ∈ bs, SmallBox b) : ∀ b ∈ bs.map (growX g), GoodBox b := fun c m => by
  obtain ⟨b, mb, rfl⟩ := List.mem_map.mp m
  have s := h b mb
  unfold SmallBox at s
  cases g
  · show GoodBox b
    unfold GoodBox
    omega
  · show GoodBox (big b)
    unfold GoodBox big
    dsimp only
    omega
theorem in_grow {g : Bool} {bs : List Box} {u v : Int} : (∃ b ∈ bs.map (growX g), InBox b (u, v)) ↔ ∃ b ∈ bs, InBox b (u / facX g, v / facX g) := by
  cases g with
  | false => rw [map_grow0]; show _ ↔ ∃ b ∈ bs, InBox b (u / 1, v / 1); rw [Int.ediv_one, Int.ediv_one]
  | true => exact union_big
def growC (g : Bool) (cs : List Band) : List Band := if g then cs.map bigBand else cs
theorem pt_grow {g : Bool} {cs : List Band} {u v : Int} : PtB (growC g cs) u v ↔ PtB cs (u / facX g) (v / facX g) := by
  cases g with
  | false => show PtB cs u v ↔ PtB cs (u / 1) (v / 1); rw [Int.ediv_one, Int.ediv_one]
  | true => exact ptB_big
theorem bc_grow {g : Bool} {cs : List Band} (h : BandC cs) : BandC (growC g cs) := by
  cases g with
  | false => exact h
  | true => exact bandC_big h
theorem rects_grow {g : Bool} {cs : List Band} : rectsB (growC g cs) = (rectsB cs).map (growX g) := by
  cases g with
  | false => exact (map_grow0 _).symm
  | true => exact rectsB_big
theorem count_grow {g : Bool} {cs : List Band} : countB (growC g cs) = countB cs * (if g then 10000000000000000000000 else 1) := by
  cases g with
  | false => show countB cs = countB cs * 1; omega
  | true => show countB (cs.map bigBand) = countB cs * 10000000000000000000000; rw [count_big]; omega
def opP (j : Nat) (A B : Prop) : Prop := if j = 0 then A ∨ B else if j = 1 then A ∧ B else A ∧ ¬ B
def setOf (j : Nat) (ps qs : List (Int × Int)) : List (Int × Int) := if j = 0 then ps ++ qs.filter (fun q => decide (q ∉ ps)) else if j = 1 then ps.filter (fun q => decide (q ∈ qs)) else ps.filter (fun q => decide (q ∉ qs))
theorem mem_setOf {j : Nat} {ps qs : List (Int × Int)} {q : Int × Int} : q ∈ setOf j ps qs ↔ opP j (q ∈ ps) (q ∈ qs) := by
  unfold setOf opP
  split
  · rw [List.mem_append, List.mem_filter]
    by_cases h : q ∈ ps <;> simp [h]
  · split
    · rw [List.mem_filter]; simp
    · rw [List.mem_filter]; simp
theorem nodup_setOf {j : Nat} {ps qs : List (Int × Int)} (n1 : ps.Nodup) (n2 : qs.Nodup) : (setOf j ps qs).Nodup := by
  unfold setOf
  split
  · refine List.nodup_append.mpr ⟨n1, n2.filter _, fun a m b n e => ?_⟩
    subst e
    have := (List.mem_filter.mp n).2
    simp at this
    exact this m
  · split <;> exact n1.filter _
theorem len_setOf {j : Nat} {ps qs : List (Int × Int)} (l1 : ps.length ≤ 2000) (l2 : qs.length ≤ 2000) : (setOf j ps qs).length ≤ 5000 := by
  unfold setOf
  have h1 := List.length_filter_le (fun q : Int × Int => decide (q ∉ ps)) qs
  have h2 := List.length_filter_le (fun q : Int × Int => decide (q ∈ qs)) ps
  have h3 := List.length_filter_le (fun q : Int × Int => decide (q ∉ qs)) ps
  split
  · rw [List.length_append]; omega
  · split <;> omega
theorem opP_congr {j : Nat} {A B A' B' : Prop} (h : A ↔ A') (k : B ↔ B') : opP j A B ↔ opP j A' B' := by
  unfold opP
  split
  · rw [h, k]
  · split <;> rw [h, k]
section
variable {g : Bool} {j : Nat} {bs1 bs2 : List Box} {ps1 ps2 : List (Int × Int)} {H : Hp} {z : Addr} {cs ds : List Band} {X Y : List Int}
theorem due_pt (mp1 : ∀ p : Int × Int, p ∈ ps1 ↔ ∃ b, b ∈ bs1 ∧ InBox b p) (mp2 : ∀ p : Int × Int, p ∈ ps2 ↔ ∃ b, b ∈ bs2 ∧ InBox b p) (md : ∀ x y, PtB ds x y ↔ (x, y) ∈ setOf j ps1 ps2) (u v : Int) :
    PtB (growC g ds) u v ↔ opP j (∃ b ∈ bs1.map (growX g), InBox b (u, v)) (∃ b ∈ bs2.map (growX g), InBox b (u, v)) := by
  rw [pt_grow, md, mem_setOf]
  exact opP_congr ((mp1 _).trans in_grow.symm) ((mp2 _).trans in_grow.symm)
theorem due_same (r : Rg K C X Y H z cs (fun u v => opP j (∃ b ∈ bs1.map (growX g), InBox b (u, v)) (∃ b ∈ bs2.map (growX g), InBox b (u, v)))) (mp1 : ∀ p : Int × Int, p ∈ ps1 ↔ ∃ b, b ∈ bs1 ∧ InBox b p) (mp2 : ∀ p : Int × Int, p ∈ ps2 ↔ ∃ b, b ∈ bs2 ∧ InBox b p) (bd : BandC ds) (md : ∀ x y, PtB ds x y ↔ (x, y) ∈ setOf j ps1 ps2) : cs = growC g ds :=
  band_uniq r.bc (bc_grow bd) fun u v => (r.pt u v).trans (due_pt mp1 mp2 md u v).symm
theorem due_points (bd : BandC ds) (md : ∀ x y, PtB ds x y ↔ (x, y) ∈ setOf j ps1 ps2) (n1 : ps1.Nodup) (n2 : ps2.Nodup) : countB (growC g ds) = (setOf j ps1 ps2).length * (if g then 10000000000000000000000 else 1) := by
  rw [count_grow, count_pts bd (nodup_setOf n1 n2) fun p => (md p.1 p.2).symm]
end
theorem ne_kept {H : Hp} {a b x y u v : Addr} {qs ks ms ns : List Addr} {bs cs : List Box} {Q : VK} (ha : SqL K H a [.ref x, .ref y]) (hb : SqL K H b [.ref u, .ref v]) (hx : SqT K H x (qs.map V.ref)) (hy : SqT K H y (ks.map V.ref)) (hu : SqT K H u (ms.map V.ref)) (hv : SqT K H v (ns.map V.ref)) (rx : Boxes H qs bs) (ry : Boxes H ks cs) (ru : Boxes H ms bs) (rv : Boxes H ns cs) (q : Q (.bl false) H) : rNeD K (.ref a) (.ref b) H Q := by
  have sh : SeqAt.shaped (.list [.tuple (bs.map datX), .tuple (cs.map datX)]) = true := by
    unfold SeqAt.shaped
    have h1 := lay_boxes bs
    have h2 := lay_boxes cs
    rw [PyData.canLay0, PyData.depth, PyData.canLayAll0, PyData.canLayAll0, PyData.canLayAll0, PyData.canLay0, PyData.canLay0, h1.1, h2.1, PyData.depthAll, PyData.depthAll, PyData.depthAll, PyData.depth, PyData.depth, decide_eq_true (by have := h1.2; have := h2.2; omega)]
    rfl
  refine ⟨_, _, .lst ha (.cons (.tup hx (dp_boxes rx)) (.cons (.tup hy (dp_boxes ry)) .nil)), .lst hb (.cons (.tup hu (dp_boxes ru)) (.cons (.tup hv (dp_boxes rv)) .nil)), sh, sh, ?_⟩
  have e : PyData.eqv (.list [.tuple (bs.map datX), .tuple (cs.map datX)]) (.list [.tuple (bs.map datX), .tuple (cs.map datX)]) = true := by
    rw [PyData.eqv, PyData.eqvAll, PyData.eqvAll, PyData.eqvAll, PyData.eqv, PyData.eqv, eqv_boxes, eqv_boxes]
    simp
  rw [e]
  exact q
theorem filter_two {α : Type} (l : List α) (p : α → Bool) : (l.filter p).length + (l.filter fun x => !p x).length = l.length := by
  induction l with
  | nil => rfl
  | cons a l ih =>
    rw [List.filter_cons, List.filter_cons]
    cases h : p a
    · simp [h]; omega
    · simp [h]; omega
theorem cells_cut {as : List Band} (l : List (Int × Int)) (n : l.Nodup) (ba : BandC as) (p : Int × Int → Bool) (h : ∀ q, PtB as q.1 q.2 ↔ q ∈ l ∧ p q = true) : countB as = (l.filter p).length :=
  (count_pts ba (n.filter _) fun q => by rw [List.mem_filter]; exact (h q).symm).symm
theorem count_sub {as bs ns ds : List Band} (ba : BandC as) (bn : BandC ns) (bd : BandC ds) (hn : ∀ x y, PtB ns x y ↔ PtB as x y ∧ PtB bs x y) (hd : ∀ x y, PtB ds x y ↔ PtB as x y ∧ ¬ PtB bs x y) : countB ds = countB as - countB ns := by
  have h1 := cells_cut (cellsB as) (nodup_cellsB ba) bn (fun q => decide (q ∈ cellsB bs)) fun q => by rw [hn, mem_cellsB, decide_eq_true_iff, mem_cellsB]
  have h2 := cells_cut (cellsB as) (nodup_cellsB ba) bd (fun q => !decide (q ∈ cellsB bs)) fun q => by rw [hd, mem_cellsB]; simp [mem_cellsB]
  have h3 := filter_two (cellsB as) fun q => decide (q ∈ cellsB bs)
  have h4 := len_cellsB ba
  omega
theorem count_or {as bs ns os : List Band} (ba : BandC as) (bb : BandC bs) (bn : BandC ns) (bo : BandC os) (hn : ∀ x y, PtB ns x y ↔ PtB as x y ∧ PtB bs x y) (ho : ∀ x y, PtB os x y ↔ PtB as x y ∨ PtB bs x y) : countB os + countB ns = countB as + countB bs := by
  have h1 := cells_cut (cellsB bs) (nodup_cellsB bb) bn (fun q => decide (q ∈ cellsB as)) fun q => by rw [hn, mem_cellsB, decide_eq_true_iff, mem_cellsB]; exact And.comm
  have h3 := filter_two (cellsB bs) fun q => decide (q ∈ cellsB as)
  have h4 := len_cellsB ba
  have h5 := len_cellsB bb
  have nd : (cellsB as ++ (cellsB bs).filter fun q => !decide (q ∈ cellsB as)).Nodup := by
    refine List.nodup_append.mpr ⟨nodup_cellsB ba, (nodup_cellsB bb).filter _, fun a m b n e => ?_⟩
    subst e
    have := (List.mem_filter.mp n).2
    simp at this
    exact this m
  have z : ∀ q, q ∈ (cellsB as ++ (cellsB bs).filter fun q => !decide (q ∈ cellsB as)) ↔ PtB os q.1 q.2 := fun q => by
    rw [ho, List.mem_append, List.mem_filter]
    by_cases c : q ∈ cellsB as
    · simp [c, mem_cellsB.mp c]
    · have c' : ¬ PtB as q.1 q.2 := fun h => c (mem_cellsB.mpr h)
      simp [c, c', mem_cellsB]
  have h2 := count_pts bo nd z
  rw [List.length_append, Int.natCast_add] at h2
  omega
end

end K14
namespace K14
open PySem PySem.Spec PyProof.Rows L2 Evl Lw
section
/-- the runs begin and end on the grid -/
theorem runs_on {α : Type} {rs : List (Run α)} (c : Canon rs) {Y : List Int} (h : ∀ y v, y ∉ Y → (AtR rs y v ↔ AtR rs (y - 1) v)) : ∀ r ∈ rs, r.1 ∈ Y ∧ r.2.1 ∈ Y := fun r mr => by
  have lr := c.1 r mr
  obtain ⟨j, hj, ej⟩ := List.getElem_of_mem mr
  constructor
  · refine Decidable.byContradiction fun n => ?_
    obtain ⟨d, md, h1, h2, h3⟩ := (h r.1 r.2.2 n).mp ⟨r, mr, Int.le_refl _, lr, rfl⟩
    obtain ⟨i, hi, ei⟩ := List.getElem_of_mem md
    rcases Nat.lt_trichotomy i j with l | e | l
    · have p := List.pairwise_iff_getElem.mp c.2 i j hi hj l
      rw [ei, ej] at p
      exact p.2 (by omega) h3
    · subst e
      rw [ei] at ej
      subst ej
      omega
    · have p := (List.pairwise_iff_getElem.mp c.2 j i hj hi l).1
      rw [ei, ej] at p
      omega
  · refine Decidable.byContradiction fun n => ?_
    obtain ⟨d, md, h1, h2, h3⟩ := (h r.2.1 r.2.2 n).mpr ⟨r, mr, by omega, by omega, rfl⟩
    obtain ⟨i, hi, ei⟩ := List.getElem_of_mem md
    rcases Nat.lt_trichotomy i j with l | e | l
    · have p := (List.pairwise_iff_getElem.mp c.2 i j hi hj l).1
      rw [ei, ej] at p
      omega
    · subst e
      rw [ei] at ej
      subst ej
      omega
    · have p := List.pairwise_iff_getElem.mp c.2 j i hj hi l
      rw [ei, ej] at p
      exact p.2 (by have := p.1; omega) h3.symm
theorem bands_on {cs : List Band} {X Y : List Int} (bc : BandC cs) (g : Grid X Y (PtB cs)) : ∀ c ∈ cs, (c.1 ∈ Y ∧ c.2.1 ∈ Y) ∧ ∀ s ∈ c.2.2, s.1 ∈ X ∧ s.2 ∈ X := by
  have uniq : ∀ {y : Int} {v : List Span} {x : Int}, AtR cs y v → (PtB cs x y ↔ InS v x) := fun {y v x} a => ⟨fun ⟨u, b, h⟩ => by rw [atR_fun bc.1 a b]; exact h, fun h => ⟨v, a, h⟩⟩
  have val : ∀ {y : Int} {v : List Span}, AtR cs y v → SpanC v ∧ v ≠ [] := fun {y v} ⟨r, m, _, _, e⟩ => e ▸ bc.2 r m
  have go : ∀ {y z : Int} {v : List Span}, (∀ x, PtB cs x y ↔ PtB cs x z) → AtR cs y v → AtR cs z v := fun {y z v} hyz a => by
    obtain ⟨sc, ne⟩ := val a
    obtain ⟨x, hx⟩ := inS_some sc ne
    obtain ⟨u, b, hu⟩ := (hyz x).mp ((uniq a).mpr hx)
    have e : u = v := span_uniq (val b).1 sc fun t => (uniq b).symm.trans ((hyz t).symm.trans (uniq a))
    rw [← e]
    exact b
  intro c m
  refine ⟨runs_on bc.1 (fun y v n => ⟨go fun x => g.2 x y n, go fun x => (g.2 x y n).symm⟩) c m, fun s ms => ?_⟩
  have lc := bc.1.1 c m
  have a : AtR cs c.1 c.2.2 := ⟨c, m, Int.le_refl _, lc, rfl⟩
  exact runs_on (Y := X) (bc.2 c m).1 (fun x v n => by
    cases v
    rw [inS_at, inS_at, ← uniq a, ← uniq a]
    exact g.1 x c.1 n) (asRun s) (List.mem_map_of_mem ms)
theorem rects_on {cs : List Band} {X Y : List Int} (bc : BandC cs) (g : Grid X Y (PtB cs)) : ∀ b ∈ rectsB cs, (b.1 ∈ X ∧ b.1 + b.2.2.1 ∈ X) ∧ b.2.1 ∈ Y ∧ b.2.1 + b.2.2.2 ∈ Y := fun b m => by
  obtain ⟨c, mc, mb⟩ := List.mem_flatMap.mp m
  obtain ⟨s, ms, rfl⟩ := List.mem_map.mp mb
  obtain ⟨⟨h1, h2⟩, h3⟩ := bands_on bc g c mc
  obtain ⟨h4, h5⟩ := h3 s ms
  dsimp only
  rw [show s.1 + (s.2 - s.1) = s.2 by omega, show c.1 + (c.2.1 - c.1) = c.2.1 by omega]
  exact ⟨⟨h4, h5⟩, h1, h2⟩
theorem rects_pos {cs : List Band} (bc : BandC cs) : ∀ b ∈ rectsB cs, 0 < b.2.2.1 ∧ 0 < b.2.2.2 := fun b m => by
  obtain ⟨c, mc, m⟩ := List.mem_flatMap.mp m
  obtain ⟨s, ms, rfl⟩ := List.mem_map.mp m
  have h1 := bc.1.1 c mc
  have h2 : s.1 < s.2 := (bc.2 c mc).1.1 (asRun s) (List.mem_map_of_mem ms)
  dsimp only
  omega
theorem rects_dis : ∀ {cs : List Band}, BandC cs → (rectsB cs).Pairwise fun a b => ∀ p, InBox a p → ¬ InBox b p
  | [], _ => .nil
  | c :: cs, h => by
    show (rectsB ([c] ++ cs)).Pairwise _
    rw [rectsB_app, rectsB_one]
    refine List.pairwise_append.mpr ⟨?_, rects_dis ⟨h.1.tail, fun b m => h.2 b (List.mem_cons_of_mem _ m)⟩, ?_⟩
    · refine List.pairwise_map.mpr ?_
      have p := List.pairwise_map.mp (h.2 c List.mem_cons_self).1.2
      refine p.imp fun {s t} q a h1 h2 => ?_
      have q1 : s.2 ≤ t.1 := q.1
      unfold InBox at h1 h2
      dsimp only at h1 h2
      omega
    · intro a ma b mb p h1 h2
      obtain ⟨s, _, rfl⟩ := List.mem_map.mp ma
      obtain ⟨d, md, mb⟩ := List.mem_flatMap.mp mb
      obtain ⟨t, _, rfl⟩ := List.mem_map.mp mb
      have := h.1.after d md
      unfold InBox at h1 h2
      dsimp only at h1 h2
      omega
/-- the bands of one rectangle -/
def oneB (b : Box) : List Band := [(b.2.1, b.2.1 + b.2.2.2, [(b.1, b.1 + b.2.2.1)])]
theorem oneB_c {b : Box} (h : 0 < b.2.2.1 ∧ 0 < b.2.2.2) : BandC (oneB b) := by
  refine bandC_one (by dsimp only; omega) (span_one (by dsimp only; omega)).1 (fun z => by cases z)
theorem oneB_pt {b : Box} {u v : Int} : PtB (oneB b) u v ↔ InBox b (u, v) := by
  unfold oneB
  rw [ptB_one]
  unfold InBox InS
  dsimp only
  constructor
  · rintro ⟨h, s, m, k⟩
    cases List.mem_singleton.mp m
    dsimp only at k
    omega
  · intro h
    exact ⟨by omega, _, List.mem_singleton.mpr rfl, by dsimp only; omega⟩
theorem oneB_rects {b : Box} : rectsB (oneB b) = [b] := by
  show [((b.1, b.2.1, b.1 + b.2.2.1 - b.1, b.2.1 + b.2.2.2 - b.2.1) : Box)] = [b]
  rw [show b.1 + b.2.2.1 - b.1 = b.2.2.1 by omega, show b.2.1 + b.2.2.2 - b.2.1 = b.2.2.2 by omega]
def areaX (b : Box) : Int := b.2.2.2 * b.2.2.1
theorem rects_area {cs : List Band} : ((rectsB cs).map areaX).sum = countB cs := by
  rw [← areasB_sum]
  refine congrArg List.sum ?_
  unfold rectsB areasB
  rw [List.map_flatMap]
  refine congrArg (fun f => List.flatMap f cs) (funext fun b => ?_)
  rw [List.map_map]
  rfl
theorem oneB_count {b : Box} : countB (oneB b) = areaX b := by
  rw [← rects_area, oneB_rects]
  show areaX b + 0 = areaX b
  omega
/-- a rectangle with points, all of them nearer to 0 than n -/
def NrBox (n : Int) (b : Box) : Prop := ((-n < b.1 ∧ b.1 + b.2.2.1 ≤ n) ∧ -n < b.2.1 ∧ b.2.1 + b.2.2.2 ≤ n) ∧ 0 < b.2.2.1 ∧ 0 < b.2.2.2
theorem rects_near {cs : List Band} {n : Int} (bc : BandC cs) (h : ∀ u v, PtB cs u v → (-n < u ∧ u < n) ∧ -n < v ∧ v < n) : ∀ b ∈ rectsB cs, NrBox n b := fun b m => by
  have p := rects_pos bc b m
  have h1 := h _ _ (rectsB_in.mp ⟨b, m, (by unfold InBox; dsimp only; omega : InBox b (b.1, b.2.1))⟩)
  have h2 := h _ _ (rectsB_in.mp ⟨b, m, (by unfold InBox; dsimp only; omega : InBox b (b.1 + b.2.2.1 - 1, b.2.1 + b.2.2.2 - 1))⟩)
  unfold NrBox
  omega
theorem NrBox.good {n : Int} {b : Box} (h : NrBox n b) (l : n ≤ 100000000000) : GoodBox b := by
  unfold NrBox at h
  unfold GoodBox
  omega
theorem NrBox.mono {n m : Int} {b : Box} (h : NrBox n b) (l : n ≤ m) : NrBox m b := by
  unfold NrBox at h ⊢
  omega
theorem Grid.wide {X Y X' Y' : List Int} {S : Int → Int → Prop} (g : Grid X Y S) (h : ∀ z ∈ X, z ∈ X') (k : ∀ z ∈ Y, z ∈ Y') : Grid X' Y' S := ⟨fun x y n => g.1 x y fun m => n (h _ m), fun x y n => g.2 x y fun m => n (k _ m)⟩
theorem Rg.iff {K : PySem.W.Frag} {C : Addr} {X Y : List Int} {H : Hp} {x : Addr} {cs : List Band} {S T : Int → Int → Prop} (r : Rg K C X Y H x cs S) (h : ∀ u v, T u v ↔ S u v) : Rg K C X Y H x cs T := ⟨r.at_, r.bc, fun u v => (r.pt u v).trans (h u v).symm, r.gr.congr h, r.lX, r.lY, fun u v k => r.near u v ((h u v).mp k)⟩
theorem Rg.wide {K : PySem.W.Frag} {C : Addr} {X Y X' Y' : List Int} {H : Hp} {x : Addr} {cs : List Band} {S : Int → Int → Prop} (r : Rg K C X Y H x cs S) (h : ∀ z ∈ X, z ∈ X') (k : ∀ z ∈ Y, z ∈ Y') (lX : X'.length ≤ 30) (lY : Y'.length ≤ 30) : Rg K C X' Y' H x cs S := ⟨r.at_, r.bc, r.pt, Grid.wide r.gr h k, lX, lY, r.near⟩
end

end K14
namespace K14
open PySem PySem.Spec PyProof.Rows L2 Evl Lw
section
variable {P : Program} {w : World} {K : PySem.W.Frag} {mg : Str → Option Value} {base : Heap} {C : Addr}
def spGreatB : Sp := fun vs H Q _ => ∃ p b, BoxAt H p b ∧ vs = [.ref p] ∧ ∀ t H', Ex H H' → BoxAt H' t (big b) → Q (.ref t) H'
theorem c_law_great (T : Txt K mg) : Cl P w K mg base CX0 1 "_law_great" s_law_great ["_law_box_here"] spGreatB := by
  refine cl_of (k := 0) T.d_law_great sc_law_great (fun vs H Q E h => ?_) (fun f cdv A outer s H vs Q E hr h => ?_)
  · obtain ⟨p, b, _, rfl, _⟩ := h
    rfl
  · obtain ⟨p, b, ba, rfl, q⟩ := h
    have nd := sc_law_great.nd
    refine ⟨_, (pss_one (ps_ret (pe_callTy ((Lw.call_tupK : CallR _ _ (Lw.tupR K))) (by rfl) T.b_tuple bt_tuple (pa_cons (pe_lc (own := [("_law_place", 1)]) (g := gName 1) (tt := tYes) rfl nd (pi_tup (pv 0)) (L2.blkOk_by (N := N_law_great) (sc := defScope s_law_great) (by decide +kernel)) (fun _ _ _ _ _ => (pg_name (i := 1) nd rfl (Or.inl rfl))) (fun _ _ _ _ _ => pts_nil) (fun _ _ _ _ _ => (pe_op op_mul (pe_op op_pow pe_int pe_int) (pv 1)))) pa_nil)))), ?_⟩
    repeat fail "st"
    intro D_m hD_m
    refine lcT (All fun i v _ => ∃ k, [b.1, b.2.1, b.2.2.1, b.2.2.2][i]? = some k ∧ v = .int (100000000000 * k)) (all_mono fun _ _ _ _ _ h => h) hD_m (SqT.of ba) (by show 4 ≤ 50000; decide) (fun j y hj H' e Q1 Q2 q1 q2 => ?_) (fun H_m os e_m L_m hE_m hp_m => ?_)
    · obtain ⟨k, hk, rfl⟩ := get_ints (ns := [b.1, b.2.1, b.2.2.1, b.2.2.2]) hj
      repeat fail "st"
      refine ⟨.inl ⟨by decide, by decide⟩, q1 _ _ (Ex.refl _) ⟨_, rfl, k, hk, ?_⟩⟩
      show V.int (10 ^ Int.toNat 11 * k) = V.int (100000000000 * k)
      rw [show (10 : Int) ^ Int.toNat 11 = 100000000000 from by decide]
    obtain ⟨ys_m, ey_m, ly_m, hy_m⟩ := All.end hp_m
    rw [ey_m, ints_of_list (f := fun k => 100000000000 * k) (ks := [b.1, b.2.1, b.2.2.1, b.2.2.2]) (by rw [ly_m, L_m]; rfl) hy_m] at hE_m
    clear ey_m ly_m hy_m hp_m L_m
    repeat fail "st"
    refine ⟨D_m, _, rfl, .inl ⟨SqL.of hE_m, fun t_m n_m => ?_⟩⟩
    repeat fail "st"
    exact q t_m _ (e_m.trans (Ex.new n_m)) upd_same
end

end K14
namespace K14
open PySem PySem.Spec PyProof.Rows L2 Evl Lw
section
variable {P : Program} {w : World} {K : PySem.W.Frag} {mg : Str → Option Value} {base : Heap} {C : Addr}
def spLeft (K : PySem.W.Frag) (C : Addr) : Sp := fun vs H Q _ => ∃ (l o : Addr) (js ks : List Addr) (bs os : List Box) (g : Bool), SqL K H l (js.map V.ref) ∧ SqL K H o (ks.map V.ref) ∧ vs = [.ref l, .ref o, .bl g] ∧ Boxes H js bs ∧ Boxes H ks os ∧ bs.length ≤ 8 ∧ os.length ≤ 4 ∧ (∀ b ∈ bs, SmallBox b) ∧ (∀ b ∈ os, SmallBox b) ∧
  ∀ (x : Addr) (cs : List Band) (H' : Hp), Ex H H' → RegAt K C H' x cs → BandC cs → (∀ u v, PtB cs u v ↔ (∃ b ∈ bs.map (growX g), InBox b (u, v)) ∧ ¬ ∃ b ∈ os.map (growX g), InBox b (u, v)) → Q (.ref x) H'
set_option maxHeartbeats 8000000 in
theorem c_law_left (T : Txt K mg) (cM : Own_Region K mg C) : Cl P w K mg base CX0 (16) "_law_left" s_law_left ["_law_some", "_law_off", "_law_grown"] (spLeft K C) := by
  refine cl_of (k := 15) T.d_law_left sc_law_left (fun vs H Q E h => ?_) (fun f cdv A outer s H vs Q E hr h => ?_)
  · obtain ⟨l, o, js, ks, bs, os, g, _, _, rfl, _⟩ := h
    rfl
  · obtain ⟨l, o, js, ks, bs, os, g, hl, ho, rfl, rj, rk, lb, lo, sb, so, q⟩ := h
    have nd := sc_law_left.nd
    have lj := Paired.length rj
    have lk := Paired.length rk
    refine ⟨_, (pss_cons (ps_set (i := 3) nd rfl (Or.inl rfl) (Lw.pe_mkR0 (c_Region___init__ T cM) cM.ow.nm hr (by decide) (by rfl) pass0))
      (pss_cons (ps_for PassesOwn.never rfl (pi_list (pv 0)) (pg_name (i := 4) nd rfl (Or.inl rfl)) (pss_one (ps_set (i := 3) nd rfl (Or.inl rfl) (pe_op (Lw.op_binI (c_Region___or__ T cM) bm_Region___or__ cM.ow hr (by decide) pass0) (pv 3) (Lw.pe_mkR (c_Region___init__ T cM) cM.ow.nm hr (by decide) (by rfl) pass0 (pa_cons (pe_ifExp (pt_val (pv 2)) (Lw.pe_cl (c_law_great T) b_law_great hr (by decide) (by rfl) pass0 (pa_cons (pv 4) pa_nil)) (pv 4)) pa_nil))))))
      (pss_cons (ps_for PassesOwn.never rfl (pi_list (pv 1)) (pg_name (i := 4) nd rfl (Or.inl rfl)) (pss_one (ps_set (i := 3) nd rfl (Or.inl rfl) (pe_op (Lw.op_binI (c_Region___sub__ T cM) bm_Region___sub__ cM.ow hr (by decide) pass0) (pv 3) (Lw.pe_mkR (c_Region___init__ T cM) cM.ow.nm hr (by decide) (by rfl) pass0 (pa_cons (pe_ifExp (pt_val (pv 2)) (Lw.pe_cl (c_law_great T) b_law_great hr (by decide) (by rfl) pass0 (pa_cons (pv 4) pa_nil)) (pv 4)) pa_nil))))))
      (pss_one (ps_ret (pv 3)))))), ?_⟩
    rw [show L2.start N_law_left [V.ref l, V.ref o, V.bl g] = [some (V.ref l), some (V.ref o), some (V.bl g), none, none] from rfl]
    generalize hX : edgesX ((bs ++ os).map (growX g)) = X
    generalize hY : edgesY ((bs ++ os).map (growX g)) = Y
    have lX : X.length ≤ 30 := by rw [← hX, len_edgesX, List.length_map, List.length_append]; omega
    have lY : Y.length ≤ 30 := by rw [← hY, len_edgesY, List.length_map, List.length_append]; omega
    have grd : ∀ cs : List Box, (∀ c ∈ cs, c ∈ (bs ++ os).map (growX g)) → Grid X Y fun u v => ∃ c ∈ cs, InBox c (u, v) := fun cs h => by rw [← hX, ← hY]; exact grid_boxes h
    have sall : ∀ c ∈ bs ++ os, SmallBox c := fun c m => (List.mem_append.mp m).elim (sb c) (so c)
    have gall : ∀ c ∈ (bs ++ os).map (growX g), GoodBox c := good_grow sall
    repeat fail "st"
    intro x dx pp h1 h2 h3 h4
    refine reg_made (K := K) (js := []) (bs := []) .nil (by decide) (fun _ m => by cases m) h1 h2 h3 h4 fun H1 cs e1 hR bf => ⟨rfl, ?_⟩
    clear h1 h2 h3 h4
    try dsimp only [List.set]
    repeat fail "st"
    refine for_list (xs := js.map V.ref) (fun i σ H' => ∃ x cs y, σ = [some (.ref l), some (.ref o), some (.bl g), some (.ref x), y] ∧ Ex H H' ∧ Rg K C X Y H' x cs (fun u v => ∃ b ∈ (bs.take i).map (growX g), InBox b (u, v)) ∧ i ≤ bs.length) ?_ ?_ ?_ ?_
    · exact ⟨x, cs, _, rfl, e1, ⟨hR, bf.1, fun u v => by rw [bf.2.1, List.take_zero]; rfl, grd _ (fun b m => by cases m), lX, lY, near_boxes (fun b m => by cases m)⟩, Nat.zero_le _⟩
    · rintro i _ H' _ ⟨x, cs, y, rfl, e, _⟩
      exact ex_l e hl
    · rintro i v _ H4 hv ⟨x, cs, y, rfl, e4, r, il⟩
      obtain ⟨a, b, rfl, hb, ba⟩ := boxes_at (rj.up e4) hv
      have mb := List.mem_of_getElem? hb
      have ib := (List.getElem?_eq_some_iff.mp hb).1
      have mg : growX g b ∈ (bs ++ os).map (growX g) := List.mem_map_of_mem (List.mem_append_left _ mb)
      repeat fail "st"
      dsimp only
      refine split_if (fun v H' => ∃ a, v = V.ref a ∧ Ex H4 H' ∧ BoxAt H' a (growX g b)) (fun hg Q k => ?_) (fun hg Q k => ?_) (fun v HB ⟨a2, ev, eB, ba2⟩ => ?_)
      · repeat fail "st"
        refine ⟨a, b, ba, rfl, fun t H' e bt => ?_⟩
        subst hg
        exact k _ _ ⟨t, rfl, e, bt⟩
      · repeat fail "st"
        subst hg
        exact k _ _ ⟨a, rfl, Ex.refl _, ba⟩
      subst ev
      repeat fail "st"
      intro x' dx' pp' h1 h2 h3 h4
      refine reg_made (K := K) (js := [a2]) (bs := [growX g b]) (.cons ba2 .nil) (Nat.le_of_ble_eq_true rfl) (fun c m => by cases List.mem_singleton.mp m; exact gall _ mg) h1 h2 h3 h4 fun H5 ds e5 hS bf5 => ⟨rfl, ?_⟩
      clear h1 h2 h3 h4
      have s : Rg K C X Y H5 x' ds (fun u v => ∃ c ∈ [growX g b], InBox c (u, v)) := ⟨hS, bf5.1, bf5.2.1, grd _ (fun c m => by cases List.mem_singleton.mp m; exact mg), lX, lY, near_boxes (fun c m => by cases List.mem_singleton.mp m; exact gall _ mg)⟩
      have one : ∀ u v : Int, (∃ c ∈ (bs.take (i + 1)).map (growX g), InBox c (u, v)) ↔ (∃ c ∈ (bs.take i).map (growX g), InBox c (u, v)) ∨ ∃ c ∈ [growX g b], InBox c (u, v) := fun u v => by
        rw [List.take_add_one, hb, Option.toList_some, List.map_append]
        constructor
        · rintro ⟨c, m, h⟩
          rcases List.mem_append.mp m with m | m
          · exact .inl ⟨c, m, h⟩
          · exact .inr ⟨c, m, h⟩
        · rintro (⟨c, m, h⟩ | ⟨c, m, h⟩)
          · exact ⟨c, List.mem_append_left _ m, h⟩
          · exact ⟨c, List.mem_append_right _ m, h⟩
      refine or_go (r.up (eB.trans e5)) s fun z es H6 e6 r6 => ?_
      repeat fail "st"
      exact ⟨z, es, _, rfl, e4.trans (eB.trans (e5.trans e6)), ⟨r6.at_, r6.bc, fun u v => (r6.pt u v).trans (one u v).symm, r6.gr.congr one, lX, lY, fun u v h => r6.near u v ((one u v).mp h)⟩, ib⟩
    · rintro _ H4 ⟨x, cs, y, rfl, e4, r, il⟩
      rw [List.length_map, lj, List.take_length] at r
      clear hR bf e1
      repeat fail "st"
      refine for_list (xs := ks.map V.ref) (fun i σ H' => ∃ x cs y, σ = [some (.ref l), some (.ref o), some (.bl g), some (.ref x), y] ∧ Ex H H' ∧ Rg K C X Y H' x cs (fun u v => (∃ b ∈ bs.map (growX g), InBox b (u, v)) ∧ ¬ ∃ b ∈ (os.take i).map (growX g), InBox b (u, v)) ∧ i ≤ os.length) ?_ ?_ ?_ ?_
      · have eq : ∀ u v : Int, ((∃ b ∈ bs.map (growX g), InBox b (u, v)) ∧ ¬ ∃ b ∈ (os.take 0).map (growX g), InBox b (u, v)) ↔ ∃ b ∈ bs.map (growX g), InBox b (u, v) := fun u v => ⟨fun h => h.1, fun h => ⟨h, fun ⟨b, m, _⟩ => by rw [List.take_zero] at m; cases m⟩⟩
        exact ⟨x, cs, _, rfl, e4, ⟨r.at_, r.bc, fun u v => (r.pt u v).trans (eq u v).symm, r.gr.congr eq, lX, lY, fun u v h => r.near u v ((eq u v).mp h)⟩, Nat.zero_le _⟩
      · rintro i _ H' _ ⟨x, cs, y, rfl, e, _⟩
        exact ex_l e ho
      · clear r il e4 x cs y
        rintro i v _ H4 hv ⟨x, cs, y, rfl, e4, r, il⟩
        obtain ⟨a, b, rfl, hb, ba⟩ := boxes_at (rk.up e4) hv
        have mb := List.mem_of_getElem? hb
        have ib := (List.getElem?_eq_some_iff.mp hb).1
        have mg : growX g b ∈ (bs ++ os).map (growX g) := List.mem_map_of_mem (List.mem_append_right _ mb)
        repeat fail "st"
        dsimp only
        refine split_if (fun v H' => ∃ a, v = V.ref a ∧ Ex H4 H' ∧ BoxAt H' a (growX g b)) (fun hg Q k => ?_) (fun hg Q k => ?_) (fun v HB ⟨a2, ev, eB, ba2⟩ => ?_)
        · repeat fail "st"
          refine ⟨a, b, ba, rfl, fun t H' e bt => ?_⟩
          subst hg
          exact k _ _ ⟨t, rfl, e, bt⟩
        · repeat fail "st"
          subst hg
          exact k _ _ ⟨a, rfl, Ex.refl _, ba⟩
        subst ev
        repeat fail "st"
        intro x' dx' pp' h1 h2 h3 h4
        refine reg_made (K := K) (js := [a2]) (bs := [growX g b]) (.cons ba2 .nil) (Nat.le_of_ble_eq_true rfl) (fun c m => by cases List.mem_singleton.mp m; exact gall _ mg) h1 h2 h3 h4 fun H5 ds e5 hS bf5 => ⟨rfl, ?_⟩
        clear h1 h2 h3 h4
        have s : Rg K C X Y H5 x' ds (fun u v => ∃ c ∈ [growX g b], InBox c (u, v)) := ⟨hS, bf5.1, bf5.2.1, grd _ (fun c m => by cases List.mem_singleton.mp m; exact mg), lX, lY, near_boxes (fun c m => by cases List.mem_singleton.mp m; exact gall _ mg)⟩
        have one : ∀ u v : Int, (∃ c ∈ (os.take (i + 1)).map (growX g), InBox c (u, v)) ↔ (∃ c ∈ (os.take i).map (growX g), InBox c (u, v)) ∨ ∃ c ∈ [growX g b], InBox c (u, v) := fun u v => by
          rw [List.take_add_one, hb, Option.toList_some, List.map_append]
          constructor
          · rintro ⟨c, m, h⟩
            rcases List.mem_append.mp m with m | m
            · exact .inl ⟨c, m, h⟩
            · exact .inr ⟨c, m, h⟩
          · rintro (⟨c, m, h⟩ | ⟨c, m, h⟩)
            · exact ⟨c, List.mem_append_left _ m, h⟩
            · exact ⟨c, List.mem_append_right _ m, h⟩
        refine sub_go (r.up (eB.trans e5)) s fun z es H6 e6 r6 => ?_
        repeat fail "st"
        have eq : ∀ u v : Int, ((∃ b ∈ bs.map (growX g), InBox b (u, v)) ∧ ¬ ∃ b ∈ (os.take (i + 1)).map (growX g), InBox b (u, v)) ↔ (((∃ b ∈ bs.map (growX g), InBox b (u, v)) ∧ ¬ ∃ b ∈ (os.take i).map (growX g), InBox b (u, v)) ∧ ¬ ∃ c ∈ [growX g b], InBox c (u, v)) := fun u v => by
          rw [one u v]
          exact ⟨fun ⟨h, k⟩ => ⟨⟨h, fun z => k (.inl z)⟩, fun z => k (.inr z)⟩, fun ⟨⟨h, k⟩, j⟩ => ⟨h, fun z => z.elim k j⟩⟩
        exact ⟨z, es, _, rfl, e4.trans (eB.trans (e5.trans e6)), ⟨r6.at_, r6.bc, fun u v => (r6.pt u v).trans (eq u v).symm, r6.gr.congr eq, lX, lY, fun u v h => r6.near u v ((eq u v).mp h)⟩, ib⟩
      · rintro _ H5 ⟨x, cs, y, rfl, e5, r, il⟩
        repeat fail "st"
        rw [List.length_map, lk, List.take_length] at r
        exact q x cs _ e5 r.at_ r.bc r.pt
end

end K14
namespace K14
open PySem PySem.Spec PyProof.Rows L2 Evl Lw
section
variable {P : Program} {w : World} {K : PySem.W.Frag} {mg : Str → Option Value} {base : Heap} {C : Addr}
def spGrown (K : PySem.W.Frag) (C : Addr) : Sp := fun vs H Q _ => ∃ (p s g : Addr) (X Y Z W : List Int) (cs : List Band) (S T : Int → Int → Prop), Pool H p ∧ Rg K C X Y H s cs S ∧ Rg K C Z W H g (cs.map bigBand) T ∧ countB cs < 1000000 ∧ vs = [.ref p, .ref s, .ref g] ∧ ∀ H', Ex H H' → Q (.bl true) H'
theorem countB_nn {cs : List Band} (h : BandC cs) : 0 ≤ countB cs := by
  rw [← len_cellsB h]
  exact Int.natCast_nonneg _
set_option maxHeartbeats 8000000 in
theorem c_law_grown_right (T : Txt K mg) (cM : Own_Region K mg C) : Cl P w K mg base CX0 (20) "_law_grown_right" s_law_grown_right ["_law_pool_here", "_law_small", "_law_great_here"] (spGrown K C) := by
  refine cl_of (k := 19) T.d_law_grown_right sc_law_grown_right (fun vs H Q E h => ?_) (fun f cdv A outer s H vs Q E hr h => ?_)
  · obtain ⟨p, s, g, X, Y, Z, W, cs, S, U, _, _, _, _, rfl, _⟩ := h
    rfl
  · obtain ⟨p, x1, x2, X, Y, Z, W, cs, S, U, hp, R1, R2, cc, rfl, q⟩ := h
    have nd := sc_law_grown_right.nd
    have cn := countB_nn R1.bc
    refine ⟨_, (pss_cons (ps_if (PW.pt (pw_or (pt_cmpR (op_neD hr.units) (Lw.pe_prp (pv 2) cM.ow.cls (c_Region_rects T cM) bm_Region_rects hr (by decide) pass0) (pe_callTy ((Lw.call_tupK : CallR _ _ (Lw.tupR K))) (by rfl) T.b_tuple bt_tuple (pa_cons (pe_lc (own := [("_law_rect", 7)]) (g := gName 7) (tt := tYes) rfl nd (pi_tup (Lw.pe_prp (pv 1) cM.ow.cls (c_Region_rects T cM) bm_Region_rects hr (by decide) pass0)) (L2.blkOk_by (N := N_law_grown_right) (sc := defScope s_law_grown_right) (by decide +kernel)) (fun _ _ _ _ _ => (pg_name (i := 7) nd rfl (Or.inl rfl))) (fun _ _ _ _ _ => pts_nil) (fun _ _ _ _ _ => (Lw.pe_cl (c_law_great T) b_law_great hr (by decide) (by rfl) pass0 (pa_cons (pv 7) pa_nil)))) pa_nil)) (nomark _)) (pw_or1 (pt_cmpR op_ne (Lw.pe_prp (pv 2) cM.ow.cls (c_Region_points T cM) bm_Region_points hr (by decide) pass0) (pe_op op_mul (pe_op op_pow pe_int pe_int) (Lw.pe_prp (pv 1) cM.ow.cls (c_Region_points T cM) bm_Region_points hr (by decide) pass0)) (nomark _))))) (pss_one (ps_ret pe_bl)) pss_nil)
      (pss_cons (ps_for PassesOwn.never rfl (pi_range1 (by rfl) T.b_range (pa_cons pe_int pa_nil)) (pg_name (i := 3) nd rfl (Or.inl rfl)) (pss_cons (ps_par (i := 4) (j := 5) rfl nd rfl rfl (by decide) rfl rfl (pa_cons (pe_op op_sub (Lw.pe_cl (c_law_draw T) b_law_draw hr (by decide) (by rfl) pass0 (pa_cons (pv 0) (pa_cons pe_int pa_nil))) pe_int) (pa_cons (pe_op op_sub (Lw.pe_cl (c_law_draw T) b_law_draw hr (by decide) (by rfl) pass0 (pa_cons (pv 0) (pa_cons pe_int pa_nil))) pe_int) pa_nil)) (by rfl))
      (pss_cons (ps_set (i := 6) nd rfl (Or.inl rfl) (pe_tup (pa_cons (pe_op op_add (pe_op op_mul (pe_op op_pow pe_int pe_int) (pv 4)) (Lw.pe_cl (c_law_draw T) b_law_draw hr (by decide) (by rfl) pass0 (pa_cons (pv 0) (pa_cons (pe_op op_pow pe_int pe_int) pa_nil)))) (pa_cons (pe_op op_add (pe_op op_mul (pe_op op_pow pe_int pe_int) (pv 5)) (Lw.pe_cl (c_law_draw T) b_law_draw hr (by decide) (by rfl) pass0 (pa_cons (pv 0) (pa_cons (pe_op op_pow pe_int pe_int) pa_nil)))) pa_nil))))
      (pss_one (ps_if (pt_cmpR op_ne (pe_cmpR (Lw.op_inI (c_Region___contains__ T cM) bm_Region___contains__ hr (by decide) pass0) (pv 6) (pv 2) (by rfl)) (pe_cmpR (Lw.op_inI (c_Region___contains__ T cM) bm_Region___contains__ hr (by decide) pass0) (pe_tup (pa_cons (pv 4) (pa_cons (pv 5) pa_nil))) (pv 1) (by rfl)) (nomark _)) (pss_one (ps_ret pe_bl)) pss_nil)))))
      (pss_one (ps_ret (pe_cmpR op_eq (pe_callB ((Lw.call_lenI (c_Region___len__ T cM) bm_Region___len__ hr (by decide) pass0)) (by rfl) T.b_len bt_len (pa_cons (pv 2) pa_nil)) (pe_callB ((Lw.call_lenI (c_Region___len__ T cM) bm_Region___len__ hr (by decide) pass0)) (by rfl) T.b_len bt_len (pa_cons (pv 1) pa_nil)) (nomark _)))))), ?_⟩
    rw [show L2.start N_law_grown_right [V.ref p, V.ref x1, V.ref x2] = [some (V.ref p), some (V.ref x1), some (V.ref x2), none, none, none, none, none] from rfl]
    repeat fail "st"
    refine rects_go R2 fun t1 m1 H1 e1 h1 r1 => ?_
    rw [rectsB_big] at r1
    have few := R1.few
    have R1 := R1.up e1; have R2 := R2.up e1; have hp := hp.up e1
    repeat fail "st"
    refine rects_go R1 fun t2 m2 H2 e2 h2 r2 => ⟨t2, rfl, ⟨_, SqT.of h2⟩, ?_⟩
    try dsimp only
    intro D hD
    have lm := Paired.length r2
    have h1 := e2 _ _ h1; have r1 := r1.up e2
    have R1 := R1.up e2; have R2 := R2.up e2; have hp := hp.up e2
    refine lcT (SiftG (fun b : Box => some (big b)) (fun H v q => ∃ a, v = V.ref a ∧ BoxAt H a q) (rectsB cs)) (siftG_mono fun H H' y b e h => boxAt_exT e h) hD (SqT.of h2) (by rw [List.length_map]; omega) (fun i v hi G e Q1 Q2 q1 q2 => ?_) (fun H3 os e3 hl1 hD1 hp1 => ?_)
    · obtain ⟨a, b, rfl, hb, ba⟩ := boxes_at (r2.up e) hi
      repeat fail "st"
      exact ⟨a, b, ba, rfl, fun t H' e' bt => q1 _ _ e' ⟨b, hb, .inl ⟨_, _, rfl, rfl, t, rfl, bt⟩⟩⟩
    have pr := siftG_all (by rw [hl1, List.length_map, lm]) hp1
    obtain ⟨wa, ew, rw0⟩ := paired_refs pr
    rw [ew] at hD1
    rw [filterMap_map (f := big)] at rw0
    clear ew hp1 pr
    have h1 := e3 _ _ h1; have r1 := r1.up e3
    have R1 := R1.up e3; have R2 := R2.up e3; have hp := hp.up e3
    repeat fail "st"
    refine ⟨D, _, rfl, .inl ⟨SqL.of hD1, fun tt nt => ?_⟩⟩
    generalize hh : upd H3 tt _ = H4
    have e4 := newEx hh nt
    have h4 := newAt hh
    clear hh
    refine ne_boxt (SqT.of (e4 _ _ h1)) (SqT.of h4) (r1.up e4) (Boxes.up e4 rw0) ?_
    repeat fail "st"
    refine ifN (fun c => absurd rfl c) (fun _ => ?_)
    have R1 := R1.up e4; have R2 := R2.up e4; have hp := hp.up e4
    have eA := e1.trans (e2.trans (e3.trans e4))
    clear h1 r1 h2 r2 hD1 rw0 h4 nt hD e1 e2 e3 e4
    repeat fail "st"
    refine pts_go R2 fun H5 e5 => ?_
    rw [count_big]
    have R1 := R1.up e5; have R2 := R2.up e5; have hp := hp.up e5; have eA := eA.trans e5
    repeat fail "st"
    refine pts_go R1 fun H6 e6 => ?_
    have R1 := R1.up e6; have R2 := R2.up e6; have hp := hp.up e6; have eA := eA.trans e6
    repeat fail "st"
    refine ifN (fun c => absurd (congrArg V.int (by rw [show (10 : Int) ^ Int.toNat 22 = 10000000000000000000000 from by decide])) c) (fun _ => ?_)
    clear e5 e6
    repeat fail "st"
    refine for_range (fun i σ H' => ∃ y3 y4 y5 y6, σ = [some (.ref p), some (.ref x1), some (.ref x2), y3, y4, y5, y6, none] ∧ Ex H6 H') ?_ ?_ ?_
    · exact ⟨_, _, _, _, rfl, Ex.refl _⟩
    · rintro i _ H7 hi ⟨y3, y4, y5, y6, rfl, e7⟩
      have R1 := R1.up e7; have R2 := R2.up e7; have hp := hp.up e7
      repeat fail "st"
      intro a Ha ea a0 a1
      have hp := hp.up ea
      repeat fail "st"
      intro b Hb eb b0 b1
      have hp := hp.up eb
      repeat fail "st"
      intro c Hc ec c0 c1
      have hp := hp.up ec
      repeat fail "st"
      intro d Hd ed d0 d1
      have hp := hp.up ed
      repeat fail "st"
      intro t n_t
      generalize hh : upd _ t _ = H_t
      have e_t := newEx hh n_t
      have h_t := newAt hh
      clear hh
      have e8 := ea.trans (eb.trans (ec.trans (ed.trans e_t)))
      have R1 := R1.up e8; have R2 := R2.up e8
      have few2 := R2.few
      try dsimp only [List.set]
      repeat fail "st"
      refine contains_pt R2.at_ h_t (by omega) (fun c m => by have := few2.2.2 c m; omega) fun v1 H8 e9 w1 => ?_
      have R1 := R1.up e9
      repeat fail "st"
      intro u n_u
      generalize hh : upd _ u _ = H_u
      have e_u := newEx hh n_u
      have h_u := newAt hh
      clear hh
      have R1 := R1.up e_u
      repeat fail "st"
      refine contains_pt R1.at_ h_u (by omega) (fun c m => by have := few.2.2 c m; omega) fun v2 H9 e10 w2 => ?_
      have vv : v1 = v2 := by
        rw [Bool.eq_iff_iff, w1, w2, ptB_big]
        rw [show (10 : Int) ^ Int.toNat 11 = 100000000000 from by decide] at c1 d1 ⊢
        rw [show (100000000000 * (a - 5) + c) / 100000000000 = a - 5 by omega, show (100000000000 * (b - 5) + d) / 100000000000 = b - 5 by omega]
      subst vv
      repeat fail "st"
      refine ifN (fun c => absurd rfl c) (fun _ => ?_)
      repeat fail "st"
      exact ⟨_, _, _, _, rfl, e7.trans (e8.trans (e9.trans (e_u.trans e10)))⟩
    · rintro _ H7 ⟨y3, y4, y5, y6, rfl, e7⟩
      repeat fail "st"
      refine len_go (R2.up e7) fun H8 e8 => ?_
      repeat fail "st"
      refine len_go (R1.up (e7.trans e8)) fun H9 e9 => ?_
      repeat fail "st"
      have el : (rectsB (cs.map bigBand)).length = (rectsB cs).length := by rw [rectsB_big, List.length_map]
      show Q (V.bl _) H9
      rw [el, decide_eq_true (rfl : V.int ((rectsB cs).length : Int) = V.int ((rectsB cs).length : Int))]
      exact q _ (eA.trans (e7.trans (e8.trans e9)))
end

end K14
namespace K14
open PySem PySem.Spec PyProof.Rows L2 Evl Lw
section
variable {P : Program} {w : World} {K : PySem.W.Frag} {mg : Str → Option Value} {base : Heap} {C : Addr}
def farB (d : Int) : List Band := [(-3, -1, [(-1000000000000, 1 + d)]), (0, 1, [(1000000000000, 2000000000000)])]
theorem farB_c {d : Int} (h : 0 ≤ d) : BandC (farB d) := by
  have one : ∀ a b : Int, a < b → SpanC [(a, b)] := fun a b l => ⟨fun r m => by cases List.mem_singleton.mp m; exact l, List.pairwise_singleton _ _⟩
  refine ⟨⟨fun r m => ?_, ?_⟩, fun b m => ?_⟩
  · rcases List.mem_cons.mp m with rfl | m
    · show (-3 : Int) < -1
      decide
    · cases List.mem_singleton.mp m
      decide
  · refine List.pairwise_cons.mpr ⟨fun r m => ?_, List.pairwise_singleton _ _⟩
    cases List.mem_singleton.mp m
    exact ⟨(by show (-1 : Int) ≤ 0; decide), fun z => by cases z⟩
  · rcases List.mem_cons.mp m with rfl | m
    · exact ⟨one _ _ (by omega), fun z => by cases z⟩
    · cases List.mem_singleton.mp m
      exact ⟨one _ _ (by decide), fun z => by cases z⟩
theorem farB_pt {d : Int} (h : 0 ≤ d) (u v : Int) : PtB (farB d) u v ↔ (InBox (0 - 1000000000000, -3, 1000000000000, 2) (u, v) ∨ InBox (0, -3, 1 + d, 2) (u, v)) ∨ InBox (1000000000000, 0, 1000000000000, 1) (u, v) := by
  unfold InBox
  dsimp only
  constructor
  · rintro ⟨w, ⟨r, m, h1, h2, rfl⟩, s, ms, h3, h4⟩
    rcases List.mem_cons.mp m with rfl | m
    · cases List.mem_singleton.mp ms
      dsimp only at h1 h2 h3 h4
      omega
    · cases List.mem_singleton.mp m
      cases List.mem_singleton.mp ms
      dsimp only at h1 h2 h3 h4
      omega
  · intro k
    by_cases c : v < 0
    · exact ⟨_, ⟨_, List.mem_cons_self, (by show (-3 : Int) ≤ v; omega), (by show v < (-1 : Int); omega), rfl⟩, _, List.mem_singleton.mpr rfl, (by show (-1000000000000 : Int) ≤ u; omega), (by show u < 1 + d; omega)⟩
    · exact ⟨_, ⟨_, List.mem_cons_of_mem _ (List.mem_singleton.mpr rfl), (by show (0 : Int) ≤ v; omega), (by show v < (1 : Int); omega), rfl⟩, _, List.mem_singleton.mpr rfl, (by show (1000000000000 : Int) ≤ u; omega), (by show u < (2000000000000 : Int); omega)⟩
theorem farB_rects {d : Int} : rectsB (farB d) = [(0 - 1000000000000, -3, 1000000000000 + (1 + d), 2), (1000000000000, 0, 1000000000000, 1)] := by
  show [((-1000000000000, -3, 1 + d - -1000000000000, -1 - -3) : Box), (1000000000000, 0, 2000000000000 - 1000000000000, 1 - 0)] = _
  rw [show (1 : Int) + d - -1000000000000 = 1000000000000 + (1 + d) by omega]
  rfl
theorem farB_count {d : Int} : countB (farB d) = 2 * (1000000000000 + (1 + d)) + 1000000000000 := by
  show (-1 - -3) * ((1 + d - -1000000000000) + 0) + ((1 - 0) * ((2000000000000 - 1000000000000) + 0) + 0) = _
  omega
set_option maxHeartbeats 8000000 in
theorem c_law_far_right (T : Txt K mg) (cM : Own_Region K mg C) : Cl P w K mg base CX0 (20) "_law_far_right" s_law_far_right ["_law_pool_here"] spCheck := by
  refine cl_of (k := 19) T.d_law_far_right sc_law_far_right (fun vs H Q E h => ?_) (fun f cdv A outer s H vs Q E hr h => ?_)
  · obtain ⟨p, rfl, _⟩ := h
    rfl
  · obtain ⟨p, rfl, hp, q⟩ := h
    have nd := sc_law_far_right.nd
    refine ⟨_, (pss_cons (ps_par (i := 1) (j := 2) rfl nd rfl rfl (by decide) rfl rfl (pa_cons (pe_op op_pow pe_int pe_int) (pa_cons (pe_op op_add pe_int (Lw.pe_cl (c_law_draw T) b_law_draw hr (by decide) (by rfl) pass0 (pa_cons (pv 0) (pa_cons (pe_op op_pow pe_int pe_int) pa_nil)))) pa_nil)) (by rfl))
      (pss_cons (ps_set (i := 3) nd rfl (Or.inl rfl) (pe_op (Lw.op_binI (c_Region___or__ T cM) bm_Region___or__ cM.ow hr (by decide) pass0) (pe_op (Lw.op_binI (c_Region___or__ T cM) bm_Region___or__ cM.ow hr (by decide) pass0) (Lw.pe_mkR (c_Region___init__ T cM) cM.ow.nm hr (by decide) (by rfl) pass0 (pa_cons (pe_tup (pa_cons (pe_op op_sub pe_int (pv 1)) (pa_cons (pe_un un_neg pe_int) (pa_cons (pv 1) (pa_cons pe_int pa_nil))))) pa_nil)) (Lw.pe_mkR (c_Region___init__ T cM) cM.ow.nm hr (by decide) (by rfl) pass0 (pa_cons (pe_tup (pa_cons pe_int (pa_cons (pe_un un_neg pe_int) (pa_cons (pv 2) (pa_cons pe_int pa_nil))))) pa_nil))) (Lw.pe_mkR (c_Region___init__ T cM) cM.ow.nm hr (by decide) (by rfl) pass0 (pa_cons (pe_tup (pa_cons (pv 1) (pa_cons pe_int (pa_cons (pv 1) (pa_cons pe_int pa_nil))))) pa_nil))))
      (pss_cons (ps_if (PW.pt (pw_or (pt_cmpR (op_neD hr.units) (Lw.pe_prp (pv 3) cM.ow.cls (c_Region_rects T cM) bm_Region_rects hr (by decide) pass0) (pe_tup (pa_cons (pe_tup (pa_cons (pe_op op_sub pe_int (pv 1)) (pa_cons (pe_un un_neg pe_int) (pa_cons (pe_op op_add (pv 1) (pv 2)) (pa_cons pe_int pa_nil))))) (pa_cons (pe_tup (pa_cons (pv 1) (pa_cons pe_int (pa_cons (pv 1) (pa_cons pe_int pa_nil))))) pa_nil))) (nomark _)) (pw_or1 (pt_cmpR op_ne (Lw.pe_prp (pv 3) cM.ow.cls (c_Region_points T cM) bm_Region_points hr (by decide) pass0) (pe_op op_add (pe_op op_mul pe_int (pe_op op_add (pv 1) (pv 2))) (pv 1)) (nomark _))))) (pss_one (ps_ret pe_bl)) pss_nil)
      (pss_cons (ps_set (i := 4) nd rfl (Or.inl rfl) (pe_lst (pa_cons (pe_cmpR (Lw.op_inI (c_Region___contains__ T cM) bm_Region___contains__ hr (by decide) pass0) (pe_tup (pa_cons (pe_op op_sub (pe_op op_add (pv 1) (pv 1)) pe_int) (pa_cons pe_int pa_nil))) (pv 3) (by rfl)) (pa_cons (pe_cmpR (Lw.op_inI (c_Region___contains__ T cM) bm_Region___contains__ hr (by decide) pass0) (pe_tup (pa_cons (pe_op op_add (pv 1) (pv 1)) (pa_cons pe_int pa_nil))) (pv 3) (by rfl)) (pa_cons (pe_cmpR (Lw.op_inI (c_Region___contains__ T cM) bm_Region___contains__ hr (by decide) pass0) (pe_tup (pa_cons (pe_op op_sub (pv 2) pe_int) (pa_cons (pe_un un_neg pe_int) pa_nil))) (pv 3) (by rfl)) (pa_cons (pe_cmpR (Lw.op_inI (c_Region___contains__ T cM) bm_Region___contains__ hr (by decide) pass0) (pe_tup (pa_cons (pv 2) (pa_cons (pe_un un_neg pe_int) pa_nil))) (pv 3) (by rfl)) pa_nil))))))
      (pss_one (ps_ret (pe_and (pe_cmpR (op_eqD hr.units) (pv 4) (pe_lst (pa_cons pe_bl (pa_cons pe_bl (pa_cons pe_bl (pa_cons pe_bl pa_nil))))) (nomark _)) (pe_one (pe_cmpR (Lw.op_notinI (c_Region___contains__ T cM) bm_Region___contains__ hr (by decide) pass0) (pe_tup (pa_cons (pe_op op_sub (pe_op op_sub pe_int (pv 1)) pe_int) (pa_cons (pe_un un_neg pe_int) pa_nil))) (pv 3) (by rfl)))))))))), ?_⟩
    rw [show L2.start N_law_far_right [V.ref p] = [some (V.ref p), none, none, none, none] from rfl]
    repeat fail "st"
    intro d H1 e1 d0 d1
    have hp := hp.up e1
    try dsimp only [List.set]
    have e12 : (10 : Int) ^ Int.toNat 12 = 1000000000000 := by decide
    rw [e12] at d1
    generalize h_b1 : ((0 - 1000000000000, -3, 1000000000000, 2) : Box) = b1
    generalize h_b2 : ((0, -3, 1 + d, 2) : Box) = b2
    generalize h_b3 : ((1000000000000, 0, 1000000000000, 1) : Box) = b3
    generalize hX : edgesX [b1, b2, b3] = X
    generalize hY : edgesY [b1, b2, b3] = Y
    have lX : X.length ≤ 30 := by rw [← hX, len_edgesX]; exact Nat.le_of_ble_eq_true rfl
    have lY : Y.length ≤ 30 := by rw [← hY, len_edgesY]; exact Nat.le_of_ble_eq_true rfl
    have grd : ∀ cs : List Box, (∀ c ∈ cs, c ∈ [b1, b2, b3]) → Grid X Y fun u v => ∃ c ∈ cs, InBox c (u, v) := fun cs h => by rw [← hX, ← hY]; exact grid_boxes h
    have gall : ∀ c ∈ [b1, b2, b3], GoodBox c := fun c m => by
      unfold GoodBox
      rcases List.mem_cons.mp m with rfl | m
      · rw [← h_b1]; dsimp only; omega
      · rcases List.mem_cons.mp m with rfl | m
        · rw [← h_b2]; dsimp only; omega
        · cases List.mem_singleton.mp m; rw [← h_b3]; dsimp only; omega
    repeat fail "st"
    rw [e12]
    intro t1 n_t1
    generalize hh : upd _ t1 _ = H_t1
    have e_t1 := newEx hh n_t1
    have h_t1 := newAt hh
    clear hh
    have h_t1 : BoxAt H_t1 t1 b1 := by rw [← h_b1]; exact h_t1
    repeat fail "st"
    intro x_q1 dx_q1 pp_q1 h1 h2 h3 h4
    refine reg_made (K := K) (js := [t1]) (bs := [b1]) (.cons h_t1 .nil) (Nat.le_of_ble_eq_true rfl) (fun c m => by cases List.mem_singleton.mp m; exact gall _ (by simp)) h1 h2 h3 h4 fun H_q1 c_q1 e_q1 hR_q1 bf_q1 => ⟨rfl, ?_⟩
    clear h1 h2 h3 h4
    have R_q1 : Rg K C X Y H_q1 x_q1 c_q1 (fun u v => ∃ c ∈ [b1], InBox c (u, v)) := ⟨hR_q1, bf_q1.1, bf_q1.2.1, grd _ (fun c m => by cases List.mem_singleton.mp m; simp), lX, lY, near_boxes (fun c m => by cases List.mem_singleton.mp m; exact gall _ (by simp))⟩
    clear hR_q1 bf_q1
    try dsimp only
    repeat fail "st"
    intro t2 n_t2
    generalize hh : upd _ t2 _ = H_t2
    have e_t2 := newEx hh n_t2
    have h_t2 := newAt hh
    clear hh
    have h_t2 : BoxAt H_t2 t2 b2 := by rw [← h_b2]; exact h_t2
    repeat fail "st"
    intro x_q2 dx_q2 pp_q2 h1 h2 h3 h4
    refine reg_made (K := K) (js := [t2]) (bs := [b2]) (.cons h_t2 .nil) (Nat.le_of_ble_eq_true rfl) (fun c m => by cases List.mem_singleton.mp m; exact gall _ (by simp)) h1 h2 h3 h4 fun H_q2 c_q2 e_q2 hR_q2 bf_q2 => ⟨rfl, ?_⟩
    clear h1 h2 h3 h4
    have R_q2 : Rg K C X Y H_q2 x_q2 c_q2 (fun u v => ∃ c ∈ [b2], InBox c (u, v)) := ⟨hR_q2, bf_q2.1, bf_q2.2.1, grd _ (fun c m => by cases List.mem_singleton.mp m; simp), lX, lY, near_boxes (fun c m => by cases List.mem_singleton.mp m; exact gall _ (by simp))⟩
    clear hR_q2 bf_q2
    try dsimp only
    repeat fail "st"
    have e2 := e_t1.trans (e_q1.trans (e_t2.trans e_q2))
    refine or_go (R_q1.up (e_t2.trans e_q2)) R_q2 fun z1 k1 H2 f1 R1 => ?_
    repeat fail "st"
    intro t3 n_t3
    generalize hh : upd _ t3 _ = H_t3
    have e_t3 := newEx hh n_t3
    have h_t3 := newAt hh
    clear hh
    have h_t3 : BoxAt H_t3 t3 b3 := by rw [← h_b3]; exact h_t3
    repeat fail "st"
    intro x_q3 dx_q3 pp_q3 h1 h2 h3 h4
    refine reg_made (K := K) (js := [t3]) (bs := [b3]) (.cons h_t3 .nil) (Nat.le_of_ble_eq_true rfl) (fun c m => by cases List.mem_singleton.mp m; exact gall _ (by simp)) h1 h2 h3 h4 fun H_q3 c_q3 e_q3 hR_q3 bf_q3 => ⟨rfl, ?_⟩
    clear h1 h2 h3 h4
    have R_q3 : Rg K C X Y H_q3 x_q3 c_q3 (fun u v => ∃ c ∈ [b3], InBox c (u, v)) := ⟨hR_q3, bf_q3.1, bf_q3.2.1, grd _ (fun c m => by cases List.mem_singleton.mp m; simp), lX, lY, near_boxes (fun c m => by cases List.mem_singleton.mp m; exact gall _ (by simp))⟩
    clear hR_q3 bf_q3
    try dsimp only
    repeat fail "st"
    refine or_go (R1.up (e_t3.trans e_q3)) R_q3 fun z k H3 f2 R => ?_
    have eA := e1.trans (e2.trans (f1.trans (e_t3.trans (e_q3.trans f2))))
    clear e2 e_t1 e_q1 e_t2 e_q2 f1 e_t3 e_q3 f2 R_q1 R_q2 R1 R_q3 h_t1 h_t2 h_t3
    have hk : k = farB d := band_uniq R.bc (farB_c d0) fun u v => (R.pt u v).trans (by
      rw [farB_pt d0]
      simp [← h_b1, ← h_b2, ← h_b3])
    subst hk
    try dsimp only [List.set]
    repeat fail "st"
    refine rects_go R fun t4 m4 H4 e4 h4 r4 => ?_
    rw [farB_rects] at r4
    have R := R.up e4; have eA := eA.trans e4
    clear e4
    repeat fail "st"
    intro u1 n_u1
    generalize hh : upd _ u1 _ = H_u1
    have e_u1 := newEx hh n_u1
    have h_u1 := newAt hh
    clear hh
    repeat fail "st"
    intro u2 n_u2
    generalize hh : upd _ u2 _ = H_u2
    have e_u2 := newEx hh n_u2
    have h_u2 := newAt hh
    clear hh
    repeat fail "st"
    intro u3 n_u3
    generalize hh : upd _ u3 _ = H_u3
    have e_u3 := newEx hh n_u3
    have h_u3 := newAt hh
    clear hh
    have e4 := e_u1.trans (e_u2.trans e_u3)
    have u1b : BoxAt H_u3 u1 (0 - 1000000000000, -3, 1000000000000 + (1 + d), 2) := (e_u2.trans e_u3) _ _ h_u1
    have u2b : BoxAt H_u3 u2 (1000000000000, 0, 1000000000000, 1) := e_u3 _ _ h_u2
    refine ne_boxt (qs := m4) (ks := [u1, u2]) (SqT.of (e4 _ _ h4)) (SqT.of h_u3) (r4.up e4) (.cons u1b (.cons u2b .nil)) ?_
    repeat fail "st"
    refine ifN (fun c => absurd rfl c) (fun _ => ?_)
    have R := R.up e4; have eA := eA.trans e4
    clear r4 h4 u1b u2b h_u1 h_u2 h_u3 e_u1 e_u2 e_u3 e4
    repeat fail "st"
    refine pts_go R fun H5 e5 => ?_
    rw [farB_count]
    have R := R.up e5; have eA := eA.trans e5
    repeat fail "st"
    refine ifN (fun c => absurd rfl c) (fun _ => ?_)
    have few := R.few
    clear e5
    repeat fail "st"
    intro w1 n_w1
    generalize hh : upd _ w1 _ = H_w1
    have e_w1 := newEx hh n_w1
    have h_w1 := newAt hh
    clear hh
    have R := R.up e_w1; have eA := eA.trans e_w1
    repeat fail "st"
    refine contains_pt R.at_ h_w1 (by omega) (fun c m => by have := few.2.2 c m; omega) fun v_1 H_1 e_1 i_1 => ?_
    have R := R.up e_1; have eA := eA.trans e_1
    clear e_w1 e_1 h_w1
    repeat fail "st"
    intro w2 n_w2
    generalize hh : upd _ w2 _ = H_w2
    have e_w2 := newEx hh n_w2
    have h_w2 := newAt hh
    clear hh
    have R := R.up e_w2; have eA := eA.trans e_w2
    repeat fail "st"
    refine contains_pt R.at_ h_w2 (by omega) (fun c m => by have := few.2.2 c m; omega) fun v_2 H_2 e_2 i_2 => ?_
    have R := R.up e_2; have eA := eA.trans e_2
    clear e_w2 e_2 h_w2
    repeat fail "st"
    intro w3 n_w3
    generalize hh : upd _ w3 _ = H_w3
    have e_w3 := newEx hh n_w3
    have h_w3 := newAt hh
    clear hh
    have R := R.up e_w3; have eA := eA.trans e_w3
    repeat fail "st"
    refine contains_pt R.at_ h_w3 (by omega) (fun c m => by have := few.2.2 c m; omega) fun v_3 H_3 e_3 i_3 => ?_
    have R := R.up e_3; have eA := eA.trans e_3
    clear e_w3 e_3 h_w3
    repeat fail "st"
    intro w4 n_w4
    generalize hh : upd _ w4 _ = H_w4
    have e_w4 := newEx hh n_w4
    have h_w4 := newAt hh
    clear hh
    have R := R.up e_w4; have eA := eA.trans e_w4
    repeat fail "st"
    refine contains_pt R.at_ h_w4 (by omega) (fun c m => by have := few.2.2 c m; omega) fun v_4 H_4 e_4 i_4 => ?_
    have R := R.up e_4; have eA := eA.trans e_4
    clear e_w4 e_4 h_w4
    repeat fail "st"
    have i1 : v_1 = true := i_1.mpr ((farB_pt d0 _ _).mpr (.inr (by unfold InBox; dsimp only; omega)))
    have i2 : v_2 = false := Bool.eq_false_iff.mpr fun z => by have := (farB_pt d0 _ _).mp (i_2.mp z); unfold InBox at this; dsimp only at this; omega
    have i3 : v_3 = true := i_3.mpr ((farB_pt d0 _ _).mpr (.inl (.inr (by unfold InBox; dsimp only; omega))))
    have i4 : v_4 = false := Bool.eq_false_iff.mpr fun z => by have := (farB_pt d0 _ _).mp (i_4.mp z); unfold InBox at this; dsimp only at this; omega
    subst i1 i2 i3 i4
    clear i_1 i_2 i_3 i_4
    intro l1 n_l1
    generalize hh : upd _ l1 _ = H_l1
    have e_l1 := newEx hh n_l1
    have h_l1 := newAt hh
    clear hh
    have R := R.up e_l1; have eA := eA.trans e_l1
    repeat fail "st"
    intro l2 n_l2
    generalize hh : upd _ l2 _ = H_l2
    have e_l2 := newEx hh n_l2
    have h_l2 := newAt hh
    clear hh
    have R := R.up e_l2; have eA := eA.trans e_l2
    repeat fail "st"
    refine ⟨.list [.bool true, .bool false, .bool true, .bool false], .list [.bool true, .bool false, .bool true, .bool false], .lst (SqL.of (e_l2 _ _ h_l1)) (.cons (.bl _) (.cons (.bl _) (.cons (.bl _) (.cons (.bl _) .nil)))), .lst (SqL.of h_l2) (.cons (.bl _) (.cons (.bl _) (.cons (.bl _) (.cons (.bl _) .nil)))), by decide +kernel, by decide +kernel, ?_⟩
    rw [show PyData.eqv (.list [.bool true, .bool false, .bool true, .bool false]) (.list [.bool true, .bool false, .bool true, .bool false]) = true from by decide +kernel]
    clear h_l1 h_l2 e_l1 e_l2
    try dsimp only [List.set]
    refine ⟨_, rfl, ?_⟩
    rw [if_pos rfl]
    repeat fail "st"
    intro w5 n_w5
    generalize hh : upd _ w5 _ = H_w5
    have e_w5 := newEx hh n_w5
    have h_w5 := newAt hh
    clear hh
    have R := R.up e_w5; have eA := eA.trans e_w5
    repeat fail "st"
    refine contains_pt R.at_ h_w5 (by omega) (fun c m => by have := few.2.2 c m; omega) fun v_5 H_5 e_5 i_5 => ?_
    have R := R.up e_5; have eA := eA.trans e_5
    clear e_w5 e_5 h_w5
    repeat fail "st"
    have i5 : v_5 = false := Bool.eq_false_iff.mpr fun z => by have := (farB_pt d0 _ _).mp (i_5.mp z); unfold InBox at this; dsimp only at this; omega
    subst i5
    exact q _ eA
end

end K14
namespace K14
open PySem PySem.Spec PyProof.Rows L2 Evl Lw
section
/-- not x, where x's truth is found by its own __len__ -/
theorem pe_notR {X : Cx} {a : Expr} {ta : TE} {pos : Pos} {r : V → Hp → (Bool → Hp → Prop) → Prop} (ha : PE X a ta) (hr : TruR X r) : PE X (.UnaryOp .Not a pos) (fun σ H Q => ta σ H fun x H1 => r x H1 fun b H2 => Q (.bl (!b)) H2) := by
  refine ⟨fun pins s σ H Q I h => ?_⟩
  refine UnaryOp_ (thn (ha.run pins s σ H _ I h) fun v s1 ⟨x, H1, I1, r1, q1⟩ => ?_)
  exact not_of (thn (hr pins s1 σ H1 x v _ I1 r1 q1) fun b s2 ⟨H2, I2, q2⟩ => ⟨.bl (!b), H2, I2, rfl, q2⟩)
end
section
variable {P : Program} {w : World} {K : PySem.W.Frag} {mg : Str → Option Value} {base : Heap} {C : Addr}
theorem len_go1 {X Y : List Int} {H : Hp} {x : Addr} {cs : List Band} {S : Int → Int → Prop} {Q : Int → Hp → Prop} {E : XK} (r : Rg K C X Y H x cs S) (q : ∀ H', Ex H H' → Q (rectsB cs).length H') : ∃ a dx fs, V.ref x = .ref a ∧ H a = some (.ins C dx fs) ∧ spLen K C [.ref a] H (fun v H' => ∃ n : Int, v = .int n ∧ 0 ≤ n ∧ n < 2 ^ 63 ∧ Q n H') E := by
  obtain ⟨a, dx, fs, e, h, k⟩ := len_go (E := E) r q
  cases e
  exact ⟨_, dx, fs, rfl, h, k⟩
def spCut (K : PySem.W.Frag) (C : Addr) : Sp := fun vs H Q _ => ∃ (p x : Addr) (X Y : List Int) (cs : List Band) (S : Int → Int → Prop), Pool H p ∧ Rg K C X Y H x cs S ∧ X.length ≤ 26 ∧ Y.length ≤ 26 ∧ (∀ u v, S u v → (-100 < u ∧ u < 100) ∧ -100 < v ∧ v < 100) ∧ vs = [.ref p, .ref x] ∧ ∀ H', Ex H H' → Q (.bl true) H'
set_option maxHeartbeats 8000000 in
theorem c_law_cut_right (T : Txt K mg) (cM : Own_Region K mg C) : Cl P w K mg base CX0 (20) "_law_cut_right" s_law_cut_right ["_law_pool_here", "_law_field"] (spCut K C) := by
  refine cl_of (k := 19) T.d_law_cut_right sc_law_cut_right (fun vs H Q E h => ?_) (fun f cdv A outer s H vs Q E hr h => ?_)
  · obtain ⟨p, x, X, Y, cs, S, _, _, _, _, _, rfl, _⟩ := h
    rfl
  · obtain ⟨p, x, X, Y, cs, S, hp, R0, lX, lY, nr, rfl, q⟩ := h
    have nd := sc_law_cut_right.nd
    refine ⟨_, (pss_cons (ps_par (i := 2) (j := 3) rfl nd rfl rfl (by decide) rfl rfl (pa_cons (pe_op op_sub (Lw.pe_cl (c_law_draw T) b_law_draw hr (by decide) (by rfl) pass0 (pa_cons (pv 0) (pa_cons pe_int pa_nil))) pe_int) (pa_cons (pe_op op_pow pe_int pe_int) pa_nil)) (by rfl))
      (pss_cons (ps_set (i := 4) nd rfl (Or.inl rfl) (pe_ix ix_seq (pe_lst (pa_cons (pe_tup (pa_cons (pv 2) (pa_cons (pe_op op_sub pe_int (pv 3)) pa_nil))) (pa_cons (pe_tup (pa_cons (pe_op op_sub pe_int (pv 3)) (pa_cons (pv 2) pa_nil))) pa_nil))) (Lw.pe_cl (c_law_draw T) b_law_draw hr (by decide) (by rfl) pass0 (pa_cons (pv 0) (pa_cons pe_int pa_nil))) (fun _ _ => rfl)))
      (pss_cons (ps_set (i := 5) nd rfl (Or.inl rfl) (Lw.pe_mkR (c_Region___init__ T cM) cM.ow.nm hr (by decide) (by rfl) pass0 (pa_cons (pe_op op_catT (pv 4) (pe_tup (pa_cons (pe_op op_mul pe_int (pv 3)) (pa_cons (pe_op op_mul pe_int (pv 3)) pa_nil)))) pa_nil)))
      (pss_cons (ps_par (i := 6) (j := 7) rfl nd rfl rfl (by decide) rfl rfl (pa_cons (pe_op (Lw.op_binI (c_Region___and__ T cM) bm_Region___and__ cM.ow hr (by decide) pass0) (pv 1) (pv 5)) (pa_cons (pe_op (Lw.op_binI (c_Region___sub__ T cM) bm_Region___sub__ cM.ow hr (by decide) pass0) (pv 1) (pv 5)) pa_nil)) (by rfl))
      (pss_cons (ps_if (PW.pt (pw_or (pt_val (pe_callTy ((Lw.call_boolI (c_Region___len__ T cM) bm_Region___len__ cM.nb hr (by decide) pass0)) (by rfl) T.b_bool bt_bool (pa_cons (pe_op (Lw.op_binI (c_Region___and__ T cM) bm_Region___and__ cM.ow hr (by decide) pass0) (pv 6) (pv 7)) pa_nil))) (pw_or (pt_not (pt_cmpR (Lw.op_eqI (c_Region___eq__ T cM) bm_Region___eq__ cM.ow hr (by decide) pass0) (pe_op (Lw.op_binI (c_Region___or__ T cM) bm_Region___or__ cM.ow hr (by decide) pass0) (pv 6) (pv 7)) (pv 1) (nomark _))) (pw_or1 (pt_cmpR op_ne (pe_op op_add (Lw.pe_prp (pv 6) cM.ow.cls (c_Region_points T cM) bm_Region_points hr (by decide) pass0) (Lw.pe_prp (pv 7) cM.ow.cls (c_Region_points T cM) bm_Region_points hr (by decide) pass0)) (Lw.pe_prp (pv 1) cM.ow.cls (c_Region_points T cM) bm_Region_points hr (by decide) pass0) (nomark _)))))) (pss_one (ps_ret pe_bl)) pss_nil)
      (pss_cons (ps_par (i := 8) (j := 9) rfl nd rfl rfl (by decide) rfl rfl (pa_cons (pv 1) (pa_cons pe_int pa_nil)) (by rfl))
      (pss_cons (ps_for PassesOwn.never rfl (pi_tup (Lw.pe_prp (pv 1) cM.ow.cls (c_Region_rects T cM) bm_Region_rects hr (by decide) pass0)) (pg_name (i := 10) nd rfl (Or.inl rfl)) (pss_cons (ps_set (i := 11) nd rfl (Or.inl rfl) (Lw.pe_mkR (c_Region___init__ T cM) cM.ow.nm hr (by decide) (by rfl) pass0 (pa_cons (pv 10) pa_nil)))
      (pss_cons (ps_if (PW.pt (pw_or (pt_not (pt_cmpR (Lw.op_eqI (c_Region___eq__ T cM) bm_Region___eq__ cM.ow hr (by decide) pass0) (pe_op (Lw.op_binI (c_Region___and__ T cM) bm_Region___and__ cM.ow hr (by decide) pass0) (pv 11) (pv 8)) (pv 11) (nomark _))) (pw_or1 (pt_cmpR (op_neD hr.units) (Lw.pe_prp (pv 11) cM.ow.cls (c_Region_rects T cM) bm_Region_rects hr (by decide) pass0) (pe_tup (pa_cons (pv 10) pa_nil)) (nomark _))))) (pss_one (ps_ret pe_bl)) pss_nil)
      (pss_one (ps_par (i := 8) (j := 9) rfl nd rfl rfl (by decide) rfl rfl (pa_cons (pe_op (Lw.op_binI (c_Region___sub__ T cM) bm_Region___sub__ cM.ow hr (by decide) pass0) (pv 8) (pv 11)) (pa_cons (pe_op op_add (pv 9) (Lw.pe_prp (pv 11) cM.ow.cls (c_Region_points T cM) bm_Region_points hr (by decide) pass0)) pa_nil)) (by rfl))))))
      (pss_one (ps_ret (pe_and (pe_notR (pv 8) (Lw.tru_lenI (c_Region___len__ T cM) bm_Region___len__ cM.nb hr (by decide) pass0)) (pe_one (pe_cmpR op_eq (pv 9) (Lw.pe_prp (pv 1) cM.ow.cls (c_Region_points T cM) bm_Region_points hr (by decide) pass0) (nomark _))))))))))))), ?_⟩
    rw [show L2.start N_law_cut_right [V.ref p, V.ref x] = [some (V.ref p), some (V.ref x), none, none, none, none, none, none, none, none, none, none] from rfl]
    repeat fail "st"
    intro a H1 e1 a0 a1
    have hp := hp.up e1
    try dsimp only [List.set]
    repeat fail "st"
    rw [show ((fun i j : Int => V.int (i ^ j.toNat)) 10 6) = V.int 1000000 from rfl]
    intro c1 n_c1
    generalize hh : upd _ c1 _ = H_c1
    have e_c1 := newEx hh n_c1
    have h_c1 := newAt hh
    clear hh
    repeat fail "st"
    intro c2 n_c2
    generalize hh : upd _ c2 _ = H_c2
    have e_c2 := newEx hh n_c2
    have h_c2 := newAt hh
    clear hh
    repeat fail "st"
    intro cl n_cl
    generalize hh : upd _ cl _ = H_cl
    have e_cl := newEx hh n_cl
    have h_cl := newAt hh
    clear hh
    have h_c1 := (e_c2.trans e_cl) _ _ h_c1
    have h_c2 := e_cl _ _ h_c2
    have eA := e1.trans (e_c1.trans (e_c2.trans e_cl))
    have hp := hp.up (e_c1.trans (e_c2.trans e_cl))
    repeat fail "st"
    intro b H2 e2 b0 b1
    have h_c1 := e2 _ _ h_c1; have h_c2 := e2 _ _ h_c2; have h_cl := e2 _ _ h_cl
    have eA := eA.trans e2; have hp := hp.up e2
    obtain ⟨tt, l, t, htt, h_tt, lb⟩ : ∃ (tt : Addr) (l t : Int), [V.ref c1, .ref c2][b.toNat]? = some (.ref tt) ∧ H2 tt = some (.tup [.int l, .int t]) ∧ ((-1000000 ≤ l ∧ l ≤ 20) ∧ -1000000 ≤ t ∧ t ≤ 20) := by
      obtain rfl | rfl : b = 0 ∨ b = 1 := by omega
      · exact ⟨c1, a - 5, 0 - 1000000, rfl, h_c1, by omega⟩
      · exact ⟨c2, 0 - 1000000, a - 5, rfl, h_c2, by omega⟩
    repeat fail "st"
    show rIx K _ _ _ _
    refine ixL_at (K := K) (j := b.toNat) (SqL.of h_cl) (by omega) htt ?_
    have R := R0.up eA
    clear h_c1 h_c2 h_cl htt e_c1 e_c2 e_cl e1 e2
    try dsimp only [List.set]
    repeat fail "st"
    intro c3 n_c3
    generalize hh : upd _ c3 _ = H_c3
    have e_c3 := newEx hh n_c3
    have h_c3 := newAt hh
    clear hh
    refine ⟨tt, c3, _, _, rfl, rfl, SqT.of (e_c3 _ _ h_tt), SqT.of h_c3, (fun z => by cases z), Nat.le_trans (Nat.le_of_ble_eq_true rfl : _ ≤ 6) (by decide), ?_⟩
    refine ⟨(fun z => by cases z), fun _ => ?_⟩
    intro c4 n_c4
    generalize hh : upd _ c4 _ = H_c4
    have e_c4 := newEx hh n_c4
    have h_c4 := newAt hh
    clear hh
    have hc4 : BoxAt H_c4 c4 ((l, t, 2000000, 2000000) : Box) := h_c4
    have eB := e_c3.trans e_c4
    have R := R.up eB; have eA := eA.trans eB
    clear h_c3 h_c4 e_c3 e_c4 eB h_tt
    have gh : GoodBox ((l, t, 2000000, 2000000) : Box) := by unfold GoodBox; dsimp only; omega
    generalize ((l, t, 2000000, 2000000) : Box) = hb at hc4 gh
    have R := R.wide (X' := X ++ edgesX [hb]) (Y' := Y ++ edgesY [hb]) (fun z m => List.mem_append_left _ m) (fun z m => List.mem_append_left _ m) (by rw [List.length_append, len_edgesX]; exact Nat.add_le_add lX (Nat.le_of_ble_eq_true rfl : _ ≤ 4)) (by rw [List.length_append, len_edgesY]; exact Nat.add_le_add lY (Nat.le_of_ble_eq_true rfl : _ ≤ 4))
    repeat fail "st"
    intro xh dxh pph h1 h2 h3 h4
    refine reg_made (K := K) (js := [c4]) (bs := [hb]) (.cons hc4 .nil) (Nat.le_of_ble_eq_true rfl) (fun c m => by cases List.mem_singleton.mp m; exact gh) h1 h2 h3 h4 fun H3 kh e3 hRh bfh => ⟨rfl, ?_⟩
    clear h1 h2 h3 h4
    have R := R.up e3; have eA := eA.trans e3
    have Rh : Rg K C (X ++ edgesX [hb]) (Y ++ edgesY [hb]) H3 xh kh (fun u v => ∃ c ∈ [hb], InBox c (u, v)) := ⟨hRh, bfh.1, bfh.2.1, Grid.wide (grid_boxes (bs := [hb]) (fun c m => m)) (fun z m => List.mem_append_right _ m) (fun z m => List.mem_append_right _ m), R.lX, R.lY, near_boxes (fun c m => by cases List.mem_singleton.mp m; exact gh)⟩
    clear hRh bfh
    try dsimp only [List.set]
    repeat fail "st"
    refine and_go R Rh fun zf kf H4 e4 Rf => ?_
    have R := R.up e4; have Rh := Rh.up e4; have eA := eA.trans e4
    repeat fail "st"
    refine sub_go R Rh fun zs ks H5 e5 Rs => ?_
    have R := R.up e5; have Rf := Rf.up e5; have eA := eA.trans e5
    have ph := Rh.pt
    clear Rh e3 e4 e5
    try dsimp only [List.set]
    repeat fail "st"
    refine and_go Rf Rs fun zn kn H6 e6 Rn => ?_
    have R := R.up e6; have Rf := Rf.up e6; have Rs := Rs.up e6; have eA := eA.trans e6
    repeat fail "st"
    refine len_go Rn fun H7 e7 => ?_
    have nb : (rectsB kn).length = 0 := by rw [Rn.nil fun u v h => h.2.2 h.1.2]; rfl
    rw [nb]
    have R := R.up e7; have Rf := Rf.up e7; have Rs := Rs.up e7; have eA := eA.trans e7
    clear Rn nb e6 e7
    repeat fail "st"
    refine or_go Rf Rs fun zo ko H8 e8 Ro => ?_
    have R := R.up e8; have Rf := Rf.up e8; have Rs := Rs.up e8; have eA := eA.trans e8
    repeat fail "st"
    refine eq_go Ro R (fun u v => ⟨fun h => h.elim And.left And.left, fun h => (Classical.em _).elim (fun z => .inl ⟨h, z⟩) fun z => .inr ⟨h, z⟩⟩) ?_
    clear Ro e8
    repeat fail "st"
    refine pts_go Rf fun H9 e9 => ?_
    have R := R.up e9; have Rs := Rs.up e9; have eA := eA.trans e9
    repeat fail "st"
    refine pts_go Rs fun H10 e10 => ?_
    have R := R.up e10; have eA := eA.trans e10
    repeat fail "st"
    refine pts_go R fun H11 e11 => ?_
    have R := R.up e11; have eA := eA.trans e11
    repeat fail "st"
    have k1 : countB kf + countB ks = countB cs := by
      have := count_sub (bs := kh) R.bc Rf.bc Rs.bc (fun u v => (Rf.pt u v).trans (and_congr (R.pt u v).symm (ph u v).symm)) (fun u v => (Rs.pt u v).trans (and_congr (R.pt u v).symm (not_congr (ph u v).symm)))
      omega
    refine ifN (fun c => absurd (congrArg V.int k1) c) (fun _ => ?_)
    clear k1 Rf Rs ph e9 e10 e11
    repeat fail "st"
    refine rects_go R fun tr jr HR eR hr rr => ⟨tr, rfl, ⟨_, SqT.of hr⟩, ?_⟩
    have R := R.up eR; have eA := eA.trans eR
    clear eR
    have onl := rects_on R.bc (R.gr.congr R.pt)
    have dis := rects_dis R.bc
    have pos := rects_pos R.bc
    have nrl : ∀ b ∈ rectsB cs, GoodBox b := fun b m => (rects_near R.bc (fun u v h => nr u v ((R.pt u v).mp h)) b m).good (by decide)
    have cnt : ((rectsB cs).map areaX).sum = countB cs := rects_area
    have R0 := R.iff (T := fun u v => ∃ b ∈ (rectsB cs).drop 0, InBox b (u, v)) (fun u v => rectsB_in.trans (R.pt u v))
    generalize h_l : rectsB cs = L at rr onl dis pos nrl cnt R0
    have lj := Paired.length rr
    refine for_tup (xs := jr.map V.ref) (fun i σ H' => ∃ y ds n z1 z2, σ = [some (.ref p), some (.ref x), some (.int (a - 5)), some (.int 1000000), some (.ref tt), some (.ref xh), some (.ref zf), some (.ref zs), some (.ref y), some (.int n), z1, z2] ∧ Ex HR H' ∧ Rg K C (X ++ edgesX [hb]) (Y ++ edgesY [hb]) H' y ds (fun u v => ∃ b ∈ L.drop i, InBox b (u, v)) ∧ n = ((L.take i).map areaX).sum ∧ i ≤ L.length) ?_ ?_ ?_ ?_
    · exact ⟨x, cs, 0, _, _, rfl, Ex.refl _, R0, rfl, Nat.zero_le _⟩
    · rintro i _ H' _ ⟨y, ds, n, z1, z2, rfl, e, _⟩
      exact SqT.of (e _ _ hr)
    · clear R0
      rintro i v _ H4 hv ⟨y, ds, n, z1, z2, rfl, e4, r, rfl, il⟩
      obtain ⟨a1, b, rfl, hb1, ba⟩ := boxes_at (rr.up e4) hv
      have mb := List.mem_of_getElem? hb1
      have ib := (List.getElem?_eq_some_iff.mp hb1).1
      have gb := nrl b mb
      have ob := onl b mb
      have pb := pos b mb
      repeat fail "st"
      intro xo dxo ppo h1 h2 h3 h4
      refine reg_made (K := K) (js := [a1]) (bs := [b]) (.cons ba .nil) (Nat.le_of_ble_eq_true rfl) (fun c m => by cases List.mem_singleton.mp m; exact gb) h1 h2 h3 h4 fun H5 ko e5 hRo bfo => ⟨rfl, ?_⟩
      clear h1 h2 h3 h4
      have Ro : Rg K C (X ++ edgesX [hb]) (Y ++ edgesY [hb]) H5 xo ko (fun u v => InBox b (u, v)) := ⟨hRo, bfo.1, (fun u v => (bfo.2.1 u v).trans ⟨fun ⟨c, m, h⟩ => by cases List.mem_singleton.mp m; exact h, fun h => ⟨b, List.mem_singleton.mpr rfl, h⟩⟩), grid_box ob.1.1 ob.1.2 ob.2.1 ob.2.2, R.lX, R.lY, fun u v h => near_boxes (bs := [b]) (fun c m => by cases List.mem_singleton.mp m; exact gb) u v ⟨b, List.mem_singleton.mpr rfl, h⟩⟩
      clear hRo bfo
      obtain rfl : ko = oneB b := band_uniq Ro.bc (oneB_c pb) fun u v => (Ro.pt u v).trans oneB_pt.symm
      have r := r.up e5
      have ba := e5 _ _ ba
      have e4 := e4.trans e5
      clear e5
      have dr : L.drop i = b :: L.drop (i + 1) := by rw [List.drop_eq_getElem_cons ib, (List.getElem?_eq_some_iff.mp hb1).2]
      have dd := dis.drop (i := i)
      rw [dr] at dd
      have dd := (List.pairwise_cons.mp dd).1
      have mi : b ∈ L.drop i := by rw [dr]; exact List.mem_cons_self
      try dsimp only [List.set]
      repeat fail "st"
      refine and_go Ro r fun zn kn H6 e6 Rn => ?_
      have Ro := Ro.up e6; have r := r.up e6; have ba := e6 _ _ ba; have e4 := e4.trans e6
      clear e6
      repeat fail "st"
      refine eq_go Rn Ro (fun u v => ⟨And.left, fun h => ⟨h, b, mi, h⟩⟩) ?_
      clear Rn
      repeat fail "st"
      refine rects_go Ro fun t4 m4 H7 e7 h4 r4 => ?_
      rw [oneB_rects] at r4
      have Ro := Ro.up e7; have r := r.up e7; have ba := e7 _ _ ba; have e4 := e4.trans e7
      clear e7
      repeat fail "st"
      intro t5 n_t5
      generalize hh : upd _ t5 _ = H_t5
      have e_t5 := newEx hh n_t5
      have h_t5 := newAt hh
      clear hh
      refine ne_boxt (qs := m4) (ks := [a1]) (SqT.of (e_t5 _ _ h4)) (SqT.of h_t5) (r4.up e_t5) (.cons (e_t5 _ _ ba) .nil) ?_
      repeat fail "st"
      refine ifN (fun c => absurd rfl c) (fun _ => ?_)
      have Ro := Ro.up e_t5; have r := r.up e_t5; have e4 := e4.trans e_t5
      clear h4 r4 h_t5 e_t5 ba
      repeat fail "st"
      refine sub_go r Ro fun zz kz H8 e8 Rz => ?_
      have Ro := Ro.up e8; have e4 := e4.trans e8
      repeat fail "st"
      refine pts_go Ro fun H9 e9 => ?_
      rw [oneB_count]
      repeat fail "st"
      refine ⟨zz, kz, _, _, _, rfl, e4.trans e9, (Rz.up e9).iff (fun u v => ⟨fun ⟨c, m, h⟩ => ⟨⟨c, by rw [dr]; exact List.mem_cons_of_mem _ m, h⟩, fun k => dd c m _ k h⟩, fun ⟨⟨c, m, h⟩, k⟩ => ?_⟩), ?_, ib⟩
      · rw [dr] at m
        rcases List.mem_cons.mp m with rfl | m
        · exact absurd h k
        · exact ⟨c, m, h⟩
      · rw [List.take_add_one, hb1, Option.toList_some, List.map_append, List.sum_append]
        show _ = _ + (areaX b + 0)
        omega
    · rintro _ H5 ⟨y, ds, n, z1, z2, rfl, e5, r, rfl, il⟩
      rw [List.length_map, lj, List.take_length]
      rw [List.length_map, lj, List.drop_length] at r
      have nb := r.nil fun u v ⟨b, m, _⟩ => by cases m
      repeat fail "st"
      refine len_go1 r fun H6 e6 => ?_
      rw [nb]
      repeat fail "st"
      refine pts_go (R.up (e5.trans e6)) fun H7 e7 => ?_
      rw [cnt]
      repeat fail "st"
      show Q (V.bl _) H7
      rw [decide_eq_true rfl]
      exact q _ (eA.trans (e5.trans (e6.trans e7)))
end

end K14
namespace K14
open PySem PySem.Spec PyProof.Rows L2 Evl Lw
section
variable {P : Program} {w : World} {K : PySem.W.Frag} {mg : Str → Option Value} {base : Heap} {C D : Addr}
def imgX (l r : Int × Bool) (b : Box) : Box := (lst l b.1 b.2.2.1, lst r b.2.1 b.2.2.2, b.2.2.1, b.2.2.2)
theorem tk_img {l : Int × Bool} {s w x : Int} : (lst l s w ≤ x ∧ x < lst l s w + w) ↔ (s ≤ tk (tki l) x ∧ tk (tki l) x < s + w) := by
  obtain ⟨a, t⟩ := l
  cases t <;> simp [lst, tk, tki] <;> omega
theorem in_img {l r : Int × Bool} {b : Box} {u v : Int} : InBox (imgX l r b) (u, v) ↔ InBox b (tk (tki l) u, tk (tki r) v) := by
  have h1 := tk_img (l := l) (s := b.1) (w := b.2.2.1) (x := u)
  have h2 := tk_img (l := r) (s := b.2.1) (w := b.2.2.2) (x := v)
  exact ⟨fun ⟨a, b, c, d⟩ => ⟨(h1.mp ⟨a, b⟩).1, (h1.mp ⟨a, b⟩).2, (h2.mp ⟨c, d⟩).1, (h2.mp ⟨c, d⟩).2⟩, fun ⟨a, b, c, d⟩ => ⟨(h1.mpr ⟨a, b⟩).1, (h1.mpr ⟨a, b⟩).2, (h2.mpr ⟨c, d⟩).1, (h2.mpr ⟨c, d⟩).2⟩⟩
/-- where the lines of a grid are taken -/
def emL (l : Int × Bool) (x : Int) : Int := if l.2 = true then l.1 - x + 1 else l.1 + x
theorem em_inv {l : Int × Bool} {x : Int} : emL (tki l) (emL l x) = x := by
  obtain ⟨a, t⟩ := l
  cases t <;> simp [emL, tki] <;> omega
theorem em_back {l : Int × Bool} {X : List Int} : (X.map (emL l)).map (emL (tki l)) = X := by
  rw [List.map_map, show emL (tki l) ∘ emL l = id from funext fun _ => em_inv, List.map_id]
theorem img_on {l : Int × Bool} {s w : Int} {X : List Int} (h1 : s ∈ X) (h2 : s + w ∈ X) : lst l s w ∈ X.map (emL l) ∧ lst l s w + w ∈ X.map (emL l) := by
  obtain ⟨a, t⟩ := l
  cases t
  · exact ⟨List.mem_map.mpr ⟨s, h1, by simp [emL, lst] <;> omega⟩, List.mem_map.mpr ⟨s + w, h2, by simp [emL, lst] <;> omega⟩⟩
  · exact ⟨List.mem_map.mpr ⟨s + w, h2, by simp [emL, lst] <;> omega⟩, List.mem_map.mpr ⟨s, h1, by simp [emL, lst] <;> omega⟩⟩
theorem img_grid {l r : Int × Bool} {b : Box} {X Y : List Int} (h : (b.1 ∈ X ∧ b.1 + b.2.2.1 ∈ X) ∧ b.2.1 ∈ Y ∧ b.2.1 + b.2.2.2 ∈ Y) : Grid (X.map (emL l)) (Y.map (emL r)) fun u v => InBox (imgX l r b) (u, v) :=
  grid_box (b := imgX l r b) (img_on h.1.1 h.1.2).1 (img_on h.1.1 h.1.2).2 (img_on h.2.1 h.2.2).1 (img_on h.2.1 h.2.2).2
theorem img_good {l r : Int × Bool} {b : Box} (h : NrBox 1000 b) (l1 : -1000 ≤ l.1 ∧ l.1 ≤ 1000) (r1 : -1000 ≤ r.1 ∧ r.1 ≤ 1000) : GoodBox (imgX l r b) := by
  obtain ⟨x, s⟩ := l
  obtain ⟨y, t⟩ := r
  obtain ⟨b1, b2, b3, b4⟩ := b
  unfold NrBox at h
  unfold GoodBox imgX lst
  dsimp only at h l1 r1 ⊢
  cases s <;> cases t <;> simp only [if_true, if_false, Bool.false_eq_true] <;> omega
theorem count_map {l r : Int × Bool} {cs ts : List Band} (bc : BandC cs) (bt : BandC ts) (h : ∀ u v, PtB ts u v ↔ PtB cs (tk (tki l) u) (tk (tki r) v)) : countB ts = countB cs := by
  have nd : ((cellsB cs).map fun p => (tk l p.1, tk r p.2)).Nodup := List.pairwise_map.mpr ((nodup_cellsB bc).imp fun {p q} n e => n (by
    have e1 := congrArg (fun z : Int × Int => tk (tki l) z.1) e
    have e2 := congrArg (fun z : Int × Int => tk (tki r) z.2) e
    dsimp only at e1 e2
    rw [tk_inv1, tk_inv1] at e1 e2
    exact Prod.ext e1 e2))
  have k := count_pts bt nd fun p => by
    rw [List.mem_map, h]
    constructor
    · rintro ⟨q, mq, rfl⟩
      dsimp only
      rw [tk_inv1, tk_inv1]
      exact mem_cellsB.mp mq
    · intro k
      exact ⟨(tk (tki l) p.1, tk (tki r) p.2), mem_cellsB.mpr k, Prod.ext (tk_inv2 _ _) (tk_inv2 _ _)⟩
  rw [List.length_map] at k
  rw [← k, len_cellsB bc]
theorem tk_near {l : Int × Bool} {u n : Int} (l1 : -100 ≤ l.1 ∧ l.1 ≤ 100) (h : -n < tk (tki l) u ∧ tk (tki l) u < n) : -(n + 200) < u ∧ u < n + 200 := by
  obtain ⟨a, t⟩ := l
  cases t <;> simp [tk, tki] at h l1 <;> omega
theorem tki_near {l : Int × Bool} {n : Int} (l1 : -n ≤ l.1 ∧ l.1 ≤ n) : -n ≤ (tki l).1 ∧ (tki l).1 ≤ n := by
  obtain ⟨a, t⟩ := l
  cases t <;> simp [tki] at l1 ⊢ <;> omega
theorem rg_one {b : Box} {X Y : List Int} {H : Hp} {x : Addr} {cs : List Band} (hR : RegAt K C H x cs) (bf : BandsFor [b] cs) (g : Grid X Y fun u v => InBox b (u, v)) (lX : X.length ≤ 30) (lY : Y.length ≤ 30) (gb : GoodBox b) : Rg K C X Y H x cs (fun u v => InBox b (u, v)) :=
  ⟨hR, bf.1, (fun u v => (bf.2.1 u v).trans ⟨fun ⟨c, m, h⟩ => by cases List.mem_singleton.mp m; exact h, fun h => ⟨b, List.mem_singleton.mpr rfl, h⟩⟩), g, lX, lY, fun u v h => near_boxes (bs := [b]) (fun c m => by cases List.mem_singleton.mp m; exact gb) u v ⟨b, List.mem_singleton.mpr rfl, h⟩⟩
theorem take_or {F : Box → Box} {L : List Box} {i : Nat} {b : Box} (h : L[i]? = some b) (u v : Int) : (∃ c ∈ L.take (i + 1), InBox (F c) (u, v)) ↔ (∃ c ∈ L.take i, InBox (F c) (u, v)) ∨ InBox (F b) (u, v) := by
  rw [List.take_add_one, h, Option.toList_some]
  constructor
  · rintro ⟨c, m, k⟩
    rcases List.mem_append.mp m with m | m
    · exact .inl ⟨c, m, k⟩
    · cases List.mem_singleton.mp m
      exact .inr k
  · rintro (⟨c, m, k⟩ | k)
    · exact ⟨c, List.mem_append_left _ m, k⟩
    · exact ⟨b, List.mem_append_right _ (List.mem_singleton.mpr rfl), k⟩
theorem rg_none {F : Box → Box} {X Y : List Int} {H : Hp} {x : Addr} {cs : List Band} (hR : RegAt K C H x cs) (bf : BandsFor [] cs) (lX : X.length ≤ 30) (lY : Y.length ≤ 30) : Rg K C X Y H x cs (fun u v => ∃ b ∈ ([] : List Box), InBox (F b) (u, v)) :=
  ⟨hR, bf.1, fun u v => (bf.2.1 u v).trans ⟨fun ⟨b, m, _⟩ => (by cases m), fun ⟨b, m, _⟩ => (by cases m)⟩, ⟨fun x y _ => ⟨fun ⟨b, m, _⟩ => (by cases m), fun ⟨b, m, _⟩ => (by cases m)⟩, fun x y _ => ⟨fun ⟨b, m, _⟩ => (by cases m), fun ⟨b, m, _⟩ => (by cases m)⟩⟩, lX, lY, fun u v ⟨b, m, _⟩ => (by cases m)⟩
def spMirr (K : PySem.W.Frag) (C : Addr) : Sp := fun vs H Q _ => ∃ (p x : Addr) (X Y : List Int) (cs : List Band) (S : Int → Int → Prop), Pool H p ∧ Rg K C X Y H x cs S ∧ (∀ u v, S u v → (-100 < u ∧ u < 100) ∧ -100 < v ∧ v < 100) ∧ vs = [.ref p, .ref x] ∧ ∀ H', Ex H H' → Q (.bl true) H'
set_option maxHeartbeats 8000000 in
theorem c_law_mirrored_right (T : Txt K mg) (cM : Own_Region K mg C) (cN : Own_Mirror K mg D) : Cl P w K mg base CX0 (20) "_law_mirrored_right" s_law_mirrored_right ["_law_pool_here", "_law_field"] (spMirr K C) := by
  refine cl_of (k := 19) T.d_law_mirrored_right sc_law_mirrored_right (fun vs H Q E h => ?_) (fun f cdv A outer s H vs Q E hr h => ?_)
  · obtain ⟨p, x, X, Y, cs, S, _, _, _, rfl, _⟩ := h
    rfl
  · obtain ⟨p, x, X, Y, cs, S, hp, R0, nr, rfl, q⟩ := h
    have nd := sc_law_mirrored_right.nd
    refine ⟨_, (pss_cons (ps_set (i := 2) nd rfl (Or.inl rfl) (Lw.pe_cl (c_law_draw T) b_law_draw hr (by decide) (by rfl) pass0 (pa_cons (pv 0) (pa_cons pe_int pa_nil))))
      (pss_cons (ps_set (i := 3) nd rfl (Or.inl rfl) (Lw.pe_mkI (g := fun {_} => gk_bi_Mirror___init___2_across_down) (c_Mirror___init__ T cN) bi_Mirror___init___2_across_down rk_bi_Mirror___init___2_across_down (by simp) (by simp) cN.ow.nm hr (by decide) (by rfl) pass0 (pa_cons (Lw.pe_cl (c_law_draw T) b_law_draw hr (by decide) (by rfl) pass0 (pa_cons (pv 0) (pa_cons pe_int pa_nil))) (pa_cons (pe_op op_sub (Lw.pe_cl (c_law_draw T) b_law_draw hr (by decide) (by rfl) pass0 (pa_cons (pv 0) (pa_cons pe_int pa_nil))) pe_int) pa_nil)) (pk_cons (pe_cmpR op_eq (pe_op op_mod (pv 2) pe_int) pe_int (nomark _)) (pk_cons (pe_cmpR op_gt (pv 2) pe_int (nomark _)) pk_nil))))
      (pss_cons (ps_par (i := 4) (j := 5) rfl nd rfl rfl (by decide) rfl rfl (pa_cons (Lw.pe_mkR0 (c_Region___init__ T cM) cM.ow.nm hr (by decide) (by rfl) pass0) (pa_cons (Lw.pe_mkR0 (c_Region___init__ T cM) cM.ow.nm hr (by decide) (by rfl) pass0) pa_nil)) (by rfl))
      (pss_cons (ps_for PassesOwn.never rfl (pi_tup (Lw.pe_prp (pv 1) cM.ow.cls (c_Region_rects T cM) bm_Region_rects hr (by decide) pass0)) (pg_name (i := 6) nd rfl (Or.inl rfl)) (pss_one (ps_set (i := 4) nd rfl (Or.inl rfl) (pe_op (Lw.op_binI (c_Region___or__ T cM) bm_Region___or__ cM.ow hr (by decide) pass0) (pv 4) (Lw.pe_mkR (c_Region___init__ T cM) cM.ow.nm hr (by decide) (by rfl) pass0 (pa_cons (Lw.pe_om (pv 3) cN.ow.cls (c_Mirror_image T cN) bm_Mirror_image hr (by decide) pass0 (pa_cons (pv 6) pa_nil)) pa_nil))))))
      (pss_cons (ps_for PassesOwn.never rfl (pi_tup (Lw.pe_prp (pv 4) cM.ow.cls (c_Region_rects T cM) bm_Region_rects hr (by decide) pass0)) (pg_name (i := 6) nd rfl (Or.inl rfl)) (pss_one (ps_set (i := 5) nd rfl (Or.inl rfl) (pe_op (Lw.op_binI (c_Region___or__ T cM) bm_Region___or__ cM.ow hr (by decide) pass0) (pv 5) (Lw.pe_mkR (c_Region___init__ T cM) cM.ow.nm hr (by decide) (by rfl) pass0 (pa_cons (Lw.pe_om (pe_un (Lw.un_invI (c_Mirror___invert__ T cN) bm_Mirror___invert__ hr (by decide) pass0) (pv 3)) cN.ow.cls (c_Mirror_image T cN) bm_Mirror_image hr (by decide) pass0 (pa_cons (pv 6) pa_nil)) pa_nil))))))
      (pss_cons (ps_if (PW.pt (pw_or (pt_cmpR op_ne (Lw.pe_prp (pv 4) cM.ow.cls (c_Region_points T cM) bm_Region_points hr (by decide) pass0) (Lw.pe_prp (pv 1) cM.ow.cls (c_Region_points T cM) bm_Region_points hr (by decide) pass0) (nomark _)) (pw_or1 (pt_not (pt_cmpR (Lw.op_eqI (c_Region___eq__ T cM) bm_Region___eq__ cM.ow hr (by decide) pass0) (pv 5) (pv 1) (nomark _)))))) (pss_one (ps_ret pe_bl)) pss_nil)
      (pss_cons (ps_for PassesOwn.never rfl (pi_range1 (by rfl) T.b_range (pa_cons pe_int pa_nil)) (pg_name (i := 7) nd rfl (Or.inl rfl)) (pss_cons (ps_set (i := 8) nd rfl (Or.inl rfl) (pe_tup (pa_cons (pe_op op_sub (Lw.pe_cl (c_law_draw T) b_law_draw hr (by decide) (by rfl) pass0 (pa_cons (pv 0) (pa_cons pe_int pa_nil))) pe_int) (pa_cons (pe_op op_sub (Lw.pe_cl (c_law_draw T) b_law_draw hr (by decide) (by rfl) pass0 (pa_cons (pv 0) (pa_cons pe_int pa_nil))) pe_int) pa_nil))))
      (pss_one (ps_if (pt_cmpR op_ne (pe_cmpR (Lw.op_inI (c_Region___contains__ T cM) bm_Region___contains__ hr (by decide) pass0) (Lw.pe_co (pv 3) (c_Mirror___call__ T cN) bm_Mirror___call__ hr (by decide) pass0 (pa_cons (pe_ix ix_seq (pv 8) pe_int (fun _ _ => rfl)) (pa_cons (pe_ix ix_seq (pv 8) pe_int (fun _ _ => rfl)) pa_nil))) (pv 4) (by rfl)) (pe_cmpR (Lw.op_inI (c_Region___contains__ T cM) bm_Region___contains__ hr (by decide) pass0) (pv 8) (pv 1) (by rfl)) (nomark _)) (pss_one (ps_ret pe_bl)) pss_nil))))
      (pss_one (ps_ret pe_bl))))))))), ?_⟩
    rw [show L2.start N_law_mirrored_right [V.ref p, V.ref x] = [some (V.ref p), some (V.ref x), none, none, none, none, none, none, none] from rfl]
    repeat fail "st"
    intro d0 H1 e1 d00 d01
    have hp := hp.up e1
    try dsimp only [List.set]
    repeat fail "st"
    intro d1 H2 e2 d10 d11
    have hp := hp.up e2
    repeat fail "st"
    intro d2 H3 e3 d20 d21
    have hp := hp.up e3
    repeat fail "st"
    intro m dx nx nd ne
    refine mir_made3 (X := d1) (Y := d2 - 50) (o := decide (V.int (d0 % 2) = V.int 1)) (d := decide (1 < d0)) nx nd ne fun H4 e4 mm => ⟨rfl, ?_⟩
    generalize hl : ((d1, decide (V.int (d0 % 2) = V.int 1)) : Int × Bool) = l at mm
    generalize hl2 : ((d2 - 50, decide (1 < d0)) : Int × Bool) = r at mm
    have ln : -100 ≤ l.1 ∧ l.1 ≤ 100 := by rw [← hl]; dsimp only; omega
    have rn : -100 ≤ r.1 ∧ r.1 ≤ 100 := by rw [← hl2]; dsimp only; omega
    clear hl hl2 nx nd ne
    have hp := hp.up e4
    have eA := e1.trans (e2.trans (e3.trans e4))
    clear e1 e2 e3 e4
    try dsimp only [List.set]
    repeat fail "st"
    intro y0 dy0 py0 h1 h2 h3 h4
    refine reg_made (K := K) (js := []) (bs := []) .nil (by decide) (fun _ m => by cases m) h1 h2 h3 h4 fun H5 c0 e5 hR5 bf5 => ⟨rfl, ?_⟩
    clear h1 h2 h3 h4
    repeat fail "st"
    intro z0 dz0 pz0 h1 h2 h3 h4
    refine reg_made (K := K) (js := []) (bs := []) .nil (by decide) (fun _ m => by cases m) h1 h2 h3 h4 fun H6 k0 e6 hR6 bf6 => ⟨rfl, ?_⟩
    clear h1 h2 h3 h4
    try dsimp only [List.set]
    repeat fail "st"
    have lX := R0.lX
    have lY := R0.lY
    have Ry0 := rg_none (F := imgX l r) (X := X.map (emL l)) (Y := Y.map (emL r)) (hR5.up e6) bf5 (by rw [List.length_map]; exact lX) (by rw [List.length_map]; exact lY)
    have Rz0 := rg_none (F := imgX (tki l) (tki r)) (X := X) (Y := Y) hR6 bf6 lX lY
    have e56 := e5.trans e6
    have eA := eA.trans e56
    have R := R0.up eA
    have mm := mm.up e56
    have hp := hp.up e56
    clear R0 hR5 bf5 hR6 bf6 e5 e6 e56
    refine rects_go R fun t1 j1 H7 e7 ht1 rr => ⟨t1, rfl, ⟨_, SqT.of ht1⟩, ?_⟩
    have eA := eA.trans e7; have R := R.up e7; have mm := mm.up e7; have hp := hp.up e7; have Ry0 := Ry0.up e7; have Rz0 := Rz0.up e7
    clear e7
    have onl := rects_on R.bc (R.gr.congr R.pt)
    have nrl := rects_near R.bc fun u v h => nr u v ((R.pt u v).mp h)
    generalize h_l : rectsB cs = L at rr onl nrl
    have lj := Paired.length rr
    refine for_tup (xs := j1.map V.ref) (fun i σ H' => ∃ y ts z, σ = [some (.ref p), some (.ref x), some (.int d0), some (.ref m), some (.ref y), some (.ref z0), z, none, none] ∧ Ex H7 H' ∧ Rg K C (X.map (emL l)) (Y.map (emL r)) H' y ts (fun u v => ∃ b ∈ L.take i, InBox (imgX l r b) (u, v)) ∧ i ≤ L.length) ?_ ?_ ?_ ?_
    · exact ⟨y0, c0, _, rfl, Ex.refl _, Ry0, Nat.zero_le _⟩
    · rintro i _ H' _ ⟨y, ts, z, rfl, e, _⟩
      exact SqT.of (e _ _ ht1)
    · clear Ry0 Rz0
      rintro i v _ H8 hv ⟨y, ts, z, rfl, e8, ry, il⟩
      obtain ⟨a1, b, rfl, hb1, ba⟩ := boxes_at (rr.up e8) hv
      have mb := List.mem_of_getElem? hb1
      have ib := (List.getElem?_eq_some_iff.mp hb1).1
      have nb := nrl b mb
      have ob := onl b mb
      have mm := mm.up e8
      obtain ⟨dm, tm, rm1, rm2, hm, _⟩ := id mm
      repeat fail "st"
      refine ⟨m, dm, _, rfl, hm, rfl, ?_⟩
      repeat fail "st"
      refine ⟨m, l, r, a1, b, mm, ba, rfl, (nb.mono (m := 1000) (by decide)).good (by decide), fun q1 H9 e9 bq => ?_⟩
      repeat fail "st"
      intro x9 dx9 pp9 h1 h2 h3 h4
      refine reg_made (K := K) (js := [q1]) (bs := [imgX l r b]) (.cons bq .nil) (Nat.le_of_ble_eq_true rfl) (fun c m => by cases List.mem_singleton.mp m; exact img_good (nb.mono (by decide)) (by omega) (by omega)) h1 h2 h3 h4 fun H10 ks e10 hR10 bf10 => ⟨rfl, ?_⟩
      clear h1 h2 h3 h4
      have s : Rg K C (X.map (emL l)) (Y.map (emL r)) H10 x9 ks (fun u v => InBox (imgX l r b) (u, v)) := rg_one hR10 bf10 (img_grid ob) ry.lX ry.lY (img_good (nb.mono (by decide)) (by omega) (by omega))
      try dsimp only [List.set]
      repeat fail "st"
      refine or_go (ry.up (e9.trans e10)) s fun zz kz H11 e11 Rz => ?_
      repeat fail "st"
      exact ⟨zz, kz, _, rfl, e8.trans (e9.trans (e10.trans e11)), Rz.iff (take_or hb1), ib⟩
    · rintro _ H8 ⟨y, ts, z, rfl, e8, ry, il⟩
      rw [List.length_map, lj, List.take_length] at ry
      have eA := eA.trans e8; have R := R.up e8; have mm := mm.up e8; have hp := hp.up e8; have Rz0 := Rz0.up e8
      clear Ry0 e8 il rr ht1 lj
      have pts : ∀ u v, PtB ts u v ↔ PtB cs (tk (tki l) u) (tk (tki r) v) := fun u v => by
        rw [ry.pt, ← rectsB_in, h_l]
        exact exists_congr fun b => and_congr Iff.rfl in_img
      repeat fail "st"
      refine rects_go ry fun t2 j2 H9 e9 ht2 rr => ⟨t2, rfl, ⟨_, SqT.of ht2⟩, ?_⟩
      have eA := eA.trans e9; have R := R.up e9; have mm := mm.up e9; have hp := hp.up e9; have ry := ry.up e9; have Rz0 := Rz0.up e9
      clear e9
      have onl := rects_on ry.bc (ry.gr.congr ry.pt)
      have nrl := rects_near (n := 300) ry.bc fun u v h => by
        have k := nr _ _ ((R.pt _ _).mp ((pts u v).mp h))
        exact ⟨tk_near ln k.1, tk_near rn k.2⟩
      generalize h_m : rectsB ts = M at rr onl nrl
      have lj := Paired.length rr
      refine for_tup (xs := j2.map V.ref) (fun i σ H' => ∃ y2 ws z, σ = [some (.ref p), some (.ref x), some (.int d0), some (.ref m), some (.ref y), some (.ref y2), z, none, none] ∧ Ex H9 H' ∧ Rg K C X Y H' y2 ws (fun u v => ∃ b ∈ M.take i, InBox (imgX (tki l) (tki r) b) (u, v)) ∧ i ≤ M.length) ?_ ?_ ?_ ?_
      · exact ⟨z0, k0, _, rfl, Ex.refl _, Rz0, Nat.zero_le _⟩
      · rintro i _ H' _ ⟨y2, ws, z, rfl, e, _⟩
        exact SqT.of (e _ _ ht2)
      · clear Rz0
        rintro i v _ H8 hv ⟨y2, ws, z, rfl, e8, rw, il⟩
        obtain ⟨a1, b, rfl, hb1, ba⟩ := boxes_at (rr.up e8) hv
        have mb := List.mem_of_getElem? hb1
        have ib := (List.getElem?_eq_some_iff.mp hb1).1
        have nb := nrl b mb
        have ob := onl b mb
        have mm := mm.up e8
        obtain ⟨dm, tm, rm1, rm2, hm, _⟩ := id mm
        repeat fail "st"
        refine ⟨m, dm, _, rfl, hm, ?_⟩
        refine ⟨m, l, r, mm, rfl, fun m2 H9 e9 mm2 => ?_⟩
        obtain ⟨dm2, tm2, rn1, rn2, hm2, _⟩ := id mm2
        refine ⟨m2, dm2, _, rfl, hm2, rfl, ?_⟩
        have ba := e9 _ _ ba
        have rw := rw.up e9
        have ln2 := tki_near ln
        have rn2 := tki_near rn
        repeat fail "st"
        refine ⟨m2, tki l, tki r, a1, b, mm2, ba, rfl, (nb.mono (m := 1000) (by decide)).good (by decide), fun q1 H10 e10 bq => ?_⟩
        repeat fail "st"
        intro x9 dx9 pp9 h1 h2 h3 h4
        refine reg_made (K := K) (js := [q1]) (bs := [imgX (tki l) (tki r) b]) (.cons bq .nil) (Nat.le_of_ble_eq_true rfl) (fun c m => by cases List.mem_singleton.mp m; exact img_good (nb.mono (by decide)) (by omega) (by omega)) h1 h2 h3 h4 fun H11 ks e11 hR11 bf11 => ⟨rfl, ?_⟩
        clear h1 h2 h3 h4
        have gr := img_grid (l := tki l) (r := tki r) ob
        rw [em_back, em_back] at gr
        have s : Rg K C X Y H11 x9 ks (fun u v => InBox (imgX (tki l) (tki r) b) (u, v)) := rg_one hR11 bf11 gr rw.lX rw.lY (img_good (nb.mono (by decide)) (by omega) (by omega))
        try dsimp only [List.set]
        repeat fail "st"
        refine or_go (rw.up (e10.trans e11)) s fun zz kz H12 e12 Rz => ?_
        repeat fail "st"
        exact ⟨zz, kz, _, rfl, e8.trans (e9.trans (e10.trans (e11.trans e12))), Rz.iff (take_or hb1), ib⟩
      · rintro _ H8 ⟨y2, ws, z, rfl, e8, rw, il⟩
        rw [List.length_map, lj, List.take_length] at rw
        have eA := eA.trans e8; have R := R.up e8; have mm := mm.up e8; have hp := hp.up e8; have ry := ry.up e8
        clear Rz0 e8 il rr ht2 lj
        have back : ∀ u v, (∃ b ∈ M, InBox (imgX (tki l) (tki r) b) (u, v)) ↔ S u v := fun u v => by
          rw [← R.pt]
          refine (exists_congr fun b => and_congr Iff.rfl (in_img (l := tki l) (r := tki r))).trans ?_
          rw [tki_tki, tki_tki, ← h_m, rectsB_in, pts, tk_inv1, tk_inv1]
        have few := R.few
        have few2 := ry.few
        repeat fail "st"
        refine pts_go ry fun H9 e9 => ?_
        have eA := eA.trans e9; have R := R.up e9; have mm := mm.up e9; have hp := hp.up e9; have ry := ry.up e9; have rw := rw.up e9
        repeat fail "st"
        refine pts_go R fun H10 e10 => ?_
        have eA := eA.trans e10; have R := R.up e10; have mm := mm.up e10; have hp := hp.up e10; have ry := ry.up e10; have rw := rw.up e10
        repeat fail "st"
        refine ifN (fun c => absurd (congrArg V.int (count_map R.bc ry.bc pts)) c) (fun _ => ?_)
        repeat fail "st"
        refine eq_go rw R back ?_
        clear rw back
        have em : Ex H8 H10 := e9.trans e10
        repeat fail "st"
        refine for_range (fun i σ H' => ∃ z y7 y8, σ = [some (.ref p), some (.ref x), some (.int d0), some (.ref m), some (.ref y), some (.ref y2), z, y7, y8] ∧ Ex H10 H') ?_ ?_ ?_
        · exact ⟨_, _, _, rfl, Ex.refl _⟩
        · rintro i _ H11 hi ⟨z, y7, y8, rfl, e11⟩
          have R := R.up e11; have hp := hp.up e11; have ry := ry.up e11; have mm := mm.up e11
          repeat fail "st"
          intro a Ha ea a0 a1
          have hp := hp.up ea
          repeat fail "st"
          intro b Hb eb b0 b1
          repeat fail "st"
          intro t n_t
          generalize hh : upd _ t _ = H_t
          have e_t := newEx hh n_t
          have h_t := newAt hh
          clear hh
          have e12 := ea.trans (eb.trans e_t)
          have R := R.up e12; have ry := ry.up e12; have mm := mm.up e12
          obtain ⟨dm, tm, rm1, rm2, hm, _⟩ := id mm
          try dsimp only [List.set]
          repeat fail "st"
          refine ⟨⟨dm, _, hm⟩, ?_⟩
          refine ⟨m, l, r, a - 5, b - 5, mm, rfl, fun t2 H12 e13 h_t2 => ?_⟩
          have R := R.up e13; have ry := ry.up e13
          have h_t := e13 _ _ h_t
          repeat fail "st"
          refine contains_pt ry.at_ h_t2 (by omega) (fun c m => by have := few2.2.2 c m; omega) fun v1 H13 e14 w1 => ?_
          have R := R.up e14
          have h_t := e14 _ _ h_t
          repeat fail "st"
          refine contains_pt R.at_ h_t (by omega) (fun c m => by have := few.2.2 c m; omega) fun v2 H14 e15 w2 => ?_
          have vv : v1 = v2 := by
            rw [Bool.eq_iff_iff, w1, w2, pts, tk_inv1, tk_inv1]
          subst vv
          repeat fail "st"
          refine ifN (fun c => absurd rfl c) (fun _ => ?_)
          repeat fail "st"
          exact ⟨_, _, _, rfl, e11.trans (e12.trans (e13.trans (e14.trans e15)))⟩
        · rintro _ H11 ⟨z, y7, y8, rfl, e11⟩
          repeat fail "st"
          exact q _ (eA.trans e11)
end

end K14
namespace K14
open PySem PySem.Spec PyProof.Rows L2 Evl Lw
section
variable {P : Program} {w : World} {K : PySem.W.Frag} {mg : Str → Option Value} {base : Heap} {C D : Addr}
def LeftS (g : Bool) (bs os : List Box) (u v : Int) : Prop := (∃ b ∈ bs.map (growX g), InBox b (u, v)) ∧ ¬ ∃ b ∈ os.map (growX g), InBox b (u, v)
theorem left_rg {g : Bool} {bs os : List Box} {H : Hp} {x : Addr} {cs : List Band} (hR : RegAt K C H x cs) (bc : BandC cs) (pt : ∀ u v, PtB cs u v ↔ LeftS g bs os u v) (lb : bs.length ≤ 6) (lo : os.length ≤ 3) (sb : ∀ b ∈ bs, SmallBox b) :
    Rg K C (edgesX ((bs ++ os).map (growX g))) (edgesY ((bs ++ os).map (growX g))) H x cs (LeftS g bs os) :=
  ⟨hR, bc, pt, (grid_boxes (fun c m => by rw [List.map_append]; exact List.mem_append_left _ m)).and (grid_boxes (fun c m => by rw [List.map_append]; exact List.mem_append_right _ m)).not,
    by rw [len_edgesX, List.length_map, List.length_append]; omega, by rw [len_edgesY, List.length_map, List.length_append]; omega, fun u v h => near_boxes (good_grow sb) u v h.1⟩
theorem left_big {bs os : List Box} {cs gs : List Band} (bc : BandC cs) (bg : BandC gs) (pc : ∀ u v, PtB cs u v ↔ LeftS false bs os u v) (pg : ∀ u v, PtB gs u v ↔ LeftS true bs os u v) : gs = cs.map bigBand :=
  band_uniq bg (bandC_big bc) fun u v => by
    rw [pg, ptB_big, pc]
    unfold LeftS
    rw [in_grow, in_grow, map_grow0, map_grow0]
    exact Iff.rfl
theorem left_near {bs os : List Box} (sb : ∀ b ∈ bs, SmallBox b) (u v : Int) (h : LeftS false bs os u v) : InBox (-4, -4, 13, 13) (u, v) := by
  obtain ⟨⟨b, m, h⟩, _⟩ := h
  rw [map_grow0] at m
  have s := sb b m
  unfold SmallBox at s
  unfold InBox at h ⊢
  dsimp only at h ⊢
  omega
theorem left_count {bs os : List Box} {cs : List Band} (bc : BandC cs) (pc : ∀ u v, PtB cs u v ↔ LeftS false bs os u v) (sb : ∀ b ∈ bs, SmallBox b) : countB cs < 1000000 := by
  have h := nodup_len (nodup_cellsB bc) (qs := cellsX (-4, -4, 13, 13)) fun p m => mem_cellsX.mpr (left_near sb p.1 p.2 ((pc _ _).mp (mem_cellsB.mp m)))
  have l := len_cellsX (b := (-4, -4, 13, 13)) (by decide) (by decide)
  have c := len_cellsB bc
  dsimp only at l
  omega
set_option maxHeartbeats 8000000 in
theorem c_law (T : Txt K mg) (cM : Own_Region K mg C) (cN : Own_Mirror K mg D) : Cl P w K mg base CX0 (24) "law" s_law ["_law_script"] (spLaw K) := by
  refine cl_of (k := 23) T.d_law sc_law (fun vs H Q E h => ?_) (fun f cdv A outer s H vs Q E hr h => ?_)
  · obtain ⟨a, ns, rfl, _⟩ := h
    rfl
  · obtain ⟨a, ns, rfl, hS, hl, q⟩ := h
    have nd := sc_law.nd
    refine ⟨_, (pss_cons (ps_for PassesOwn.never rfl (pi_range1 (by rfl) T.b_range (pa_cons (pe_callB (call_max2 rfl) (by rfl) T.b_max bt_max (pa_cons pe_int (pa_cons (pe_callB (call_min2 rfl) (by rfl) T.b_min bt_min (pa_cons (pe_callB (call_len) (by rfl) T.b_len bt_len (pa_cons (pv 0) pa_nil)) (pa_cons pe_int pa_nil))) pa_nil))) pa_nil)) (pg_name (i := 1) nd rfl (Or.inl rfl)) (pss_cons (ps_set (i := 2) nd rfl (Or.inr rfl) (Lw.pe_cl (c_law_pool T) b_law_pool hr (by decide) (by rfl) pass0 (pa_cons (Lw.pe_cl (c_law_cell T) b_law_cell hr (by decide) (by rfl) pass0 (pa_cons (pv 0) (pa_cons (pv 1) pa_nil))) pa_nil)))
      (pss_cons (ps_if (pt_not (pt_val (Lw.pe_cl (c_law_far_right T cM) b_law_far_right hr (by decide) (by rfl) pass0 (pa_cons (pv 2) pa_nil)))) (pss_one (ps_ret pe_bl)) pss_nil)
      (pss_one (ps_for PassesOwn.never rfl (pi_range1 (by rfl) T.b_range (pa_cons pe_int pa_nil)) (pg_name (i := 3) nd rfl (Or.inl rfl)) (pss_cons (ps_setLc (own := [("_law_j", 8)]) (g := gName 8) (tt := tYes) (i := 4) rfl nd rfl rfl (sw_true rfl rfl rfl (by decide +kernel)) (pi_range1 (by rfl) T.b_range (pa_cons (Lw.pe_cl (c_law_draw T) b_law_draw hr (by decide) (by rfl) pass0 (pa_cons (pv 2) (pa_cons pe_int pa_nil))) pa_nil)) (L2.blkOk_by (N := N_law) (sc := defScope s_law) (by decide +kernel)) (fun _ _ _ _ _ => (pg_name (i := 8) nd rfl (Or.inl rfl))) (fun _ _ _ _ _ => pts_nil) (fun _ _ _ _ _ => (Lw.pe_cl (c_law_box T) b_law_box hr (by decide) (by rfl) pass0 (pa_cons (pv 2) pa_nil))))
      (pss_cons (ps_setLc (own := [("_law_j", 8)]) (g := gName 8) (tt := tYes) (i := 5) rfl nd rfl rfl (sw_true rfl rfl rfl (by decide +kernel)) (pi_range1 (by rfl) T.b_range (pa_cons pe_int pa_nil)) (L2.blkOk_by (N := N_law) (sc := defScope s_law) (by decide +kernel)) (fun _ _ _ _ _ => (pg_name (i := 8) nd rfl (Or.inl rfl))) (fun _ _ _ _ _ => pts_nil) (fun _ _ _ _ _ => (Lw.pe_cl (c_law_box T) b_law_box hr (by decide) (by rfl) pass0 (pa_cons (pv 2) pa_nil))))
      (pss_cons (ps_par (i := 6) (j := 7) rfl nd rfl rfl (by decide) rfl rfl (pa_cons (Lw.pe_cl (c_law_left T cM) b_law_left hr (by decide) (by rfl) pass0 (pa_cons (pv 4) (pa_cons (pv 5) (pa_cons pe_bl pa_nil)))) (pa_cons (Lw.pe_cl (c_law_left T cM) b_law_left hr (by decide) (by rfl) pass0 (pa_cons (pv 4) (pa_cons (pv 5) (pa_cons pe_bl pa_nil)))) pa_nil)) (by rfl))
      (pss_cons (ps_if (PW.pt (pw_or (pt_not (pt_val (Lw.pe_cl (c_law_grown_right T cM) b_law_grown_right hr (by decide) (by rfl) pass0 (pa_cons (pv 2) (pa_cons (pv 6) (pa_cons (pv 7) pa_nil)))))) (pw_or1 (pt_not (pt_val (Lw.pe_cl (c_law_mirrored_right T cM cN) b_law_mirrored_right hr (by decide) (by rfl) pass0 (pa_cons (pv 2) (pa_cons (pv 6) pa_nil)))))))) (pss_one (ps_ret pe_bl)) pss_nil)
      (pss_one (ps_if (pt_not (pt_val (Lw.pe_cl (c_law_cut_right T cM) b_law_cut_right hr (by decide) (by rfl) pass0 (pa_cons (pv 2) (pa_cons (pv 6) pa_nil))))) (pss_one (ps_ret pe_bl)) pss_nil)))))))))))
      (pss_one (ps_ret pe_bl))), ?_⟩
    repeat fail "st"
    refine for_range (fun _ σ H' => ∃ y0 y1 y2 y3 y4 y5 y6 y7, σ = [some (.ref a), y0, y1, y2, y3, y4, y5, y6, y7] ∧ Ex H H') ⟨_, _, _, _, _, _, _, _, rfl, Ex.refl _⟩ ?_ ?_
    · rintro i _ H' hi ⟨y0, y1, y2, y3, y4, y5, y6, y7, rfl, e⟩
      have hi6 : i ≤ 6 := by
        revert hi
        (repeat' split) <;> omega
      have hS' := ex_l e hS
      repeat fail "st"
      refine ⟨_, _, _, rfl, (by fail "sql"), hl, by omega, by omega, fun c Hc ec => ?_⟩
      repeat fail "st"
      intro pl Hp np ep pp
      repeat fail "st"
      have eA := e.trans (ec.trans ep)
      clear e ec ep hS'
      intro Hf ef
      have pp := pp.up ef; have eA := eA.trans ef
      clear ef
      try dsimp only [List.set]
      repeat fail "st"
      refine for_range (fun _ σ H2 => ∃ u3 u4 u5 u6 u7 u8, σ = [some (.ref a), some (.int (0 + (i : Int))), some (.ref pl), u3, u4, u5, u6, u7, u8] ∧ Ex Hf H2) ⟨_, _, _, _, _, _, rfl, Ex.refl _⟩ ?_ ?_
      · rintro j _ H2 hj ⟨u3, u4, u5, u6, u7, u8, rfl, e2⟩
        have pp := pp.up e2
        repeat fail "st"
        intro d H1 e1 d0 d1
        have pp := pp.up e1
        repeat fail "st"
        intro D1 hD
        refine lcR (All fun _ v H' => ∃ t b, v = V.ref t ∧ BoxAt H' t b ∧ SmallBox b) (all_mono fun i v H H' e ⟨t, b, e1, e2, e3⟩ => ⟨t, b, e1, e t _ (fun xs z => by cases z) e2, e3⟩) hD (by omega) (fun j hj H3 e3 Q1 Q2 q1 q2 => ?_) (fun H_D1 os1 e_D1 hl1 h_D1 hp1 => ?_)
        · have p3 := pp.up e3
          repeat fail "st"
          exact fun t b H4 e4 bt sb => q1 _ _ e4 ⟨_, rfl, t, b, rfl, bt, sb⟩
        obtain ⟨ys1, ey1, ly1, hy1⟩ := All.end hp1
        obtain ⟨js1, bs1, rfl, rj1, small1⟩ := boxes_of (P := SmallBox) fun y m => by
          obtain ⟨i, hi, e⟩ := List.getElem_of_mem m
          exact hy1 i y (by rw [List.getElem?_eq_getElem hi, e])
        rw [ey1] at h_D1
        have lb1 : bs1.length ≤ 6 := by have := Paired.length rj1; rw [List.length_map] at ly1; omega
        have pp := pp.up e_D1
        clear hp1 hy1 ey1 ly1 hl1
        repeat fail "st"
        intro D2 hD
        refine lcR (All fun _ v H' => ∃ t b, v = V.ref t ∧ BoxAt H' t b ∧ SmallBox b) (all_mono fun i v H H' e ⟨t, b, e1, e2, e3⟩ => ⟨t, b, e1, e t _ (fun xs z => by cases z) e2, e3⟩) hD (by omega) (fun j hj H3 e3 Q1 Q2 q1 q2 => ?_) (fun H_D2 os2 e_D2 hl1 h_D2 hp1 => ?_)
        · have p3 := pp.up e3
          repeat fail "st"
          exact fun t b H4 e4 bt sb => q1 _ _ e4 ⟨_, rfl, t, b, rfl, bt, sb⟩
        obtain ⟨ys1, ey1, ly1, hy1⟩ := All.end hp1
        obtain ⟨js2, bs2, rfl, rj2, small2⟩ := boxes_of (P := SmallBox) fun y m => by
          obtain ⟨i, hi, e⟩ := List.getElem_of_mem m
          exact hy1 i y (by rw [List.getElem?_eq_getElem hi, e])
        rw [ey1] at h_D2
        have lb2 : bs2.length ≤ 3 := by have := Paired.length rj2; rw [List.length_map] at ly1; omega
        have pp := pp.up e_D2
        clear hp1 hy1 ey1 ly1 hl1
        repeat fail "st"
        have h_D1 := e_D2 _ _ h_D1
        have rj1 := rj1.up e_D2
        have eB := e2.trans (e1.trans (e_D1.trans e_D2))
        clear e2 e1 e_D1 e_D2
        try dsimp only [List.set]
        refine cons_one ?_
        repeat fail "st"
        refine ⟨D1, D2, js1, js2, bs1, bs2, false, SqL.of h_D1, SqL.of h_D2, rfl, rj1, rj2, by omega, by omega, small1, small2, fun x1 cs1 H3 e3 hR1 bc1 pt1 => ?_⟩
        have h_D1 := e3 _ _ h_D1
        have h_D2 := e3 _ _ h_D2
        have rj1 := rj1.up e3
        have rj2 := rj2.up e3
        have R1 := left_rg hR1 bc1 pt1 lb1 lb2 small1
        have few := left_count bc1 pt1 small1
        have nr : ∀ u v, LeftS false bs1 bs2 u v → (-100 < u ∧ u < 100) ∧ -100 < v ∧ v < 100 := fun u v h => by
          have k := left_near small1 u v h
          unfold InBox at k
          dsimp only at k
          omega
        have lX : (edgesX ((bs1 ++ bs2).map (growX false))).length ≤ 26 := by rw [len_edgesX, List.length_map, List.length_append]; omega
        have lY : (edgesY ((bs1 ++ bs2).map (growX false))).length ≤ 26 := by rw [len_edgesY, List.length_map, List.length_append]; omega
        repeat fail "st"
        refine ⟨D1, D2, js1, js2, bs1, bs2, true, SqL.of h_D1, SqL.of h_D2, rfl, rj1, rj2, by omega, by omega, small1, small2, fun x2 cs2 H4 e4 hR2 bc2 pt2 => ?_⟩
        obtain rfl := left_big bc1 bc2 pt1 pt2
        have R2 := left_rg hR2 bc2 pt2 lb1 lb2 small1
        have R1 := R1.up e4
        have e34 := e3.trans e4
        have pp := pp.up e34
        have eB := eB.trans e34
        clear e3 e4 e34 h_D1 h_D2 rj1 rj2 hR1 hR2 pt2 bc2
        generalize edgesX ((bs1 ++ bs2).map (growX false)) = X1 at R1 lX
        generalize edgesY ((bs1 ++ bs2).map (growX false)) = Y1 at R1 lY
        repeat fail "st"
        refine ⟨pl, x1, x2, _, _, _, _, cs1, _, _, pp, R1, R2, few, rfl, fun H5 e5 => ?_⟩
        have pp := pp.up e5; have R1 := R1.up e5; have eB := eB.trans e5
        repeat fail "st"
        refine ⟨pl, x1, _, _, cs1, _, pp, R1, nr, rfl, fun H6 e6 => ?_⟩
        have pp := pp.up e6; have R1 := R1.up e6; have eB := eB.trans e6
        repeat fail "st"
        refine ⟨pl, x1, _, _, cs1, _, pp, R1, lX, lY, nr, rfl, fun H7 e7 => ?_⟩
        have eB := eB.trans e7
        repeat fail "st"
        exact ⟨_, _, _, _, _, _, rfl, eB⟩
      · rintro _ H2 ⟨u3, u4, u5, u6, u7, u8, rfl, e2⟩
        exact ⟨_, _, _, _, _, _, _, _, rfl, eA.trans e2⟩
    · rintro _ H' ⟨y0, y1, y2, y3, y4, y5, y6, y7, rfl, e⟩
      repeat fail "st"
      exact q _
theorem law_mk {fa : Addr} (T : Txt K mg) (hfa : mg "law" = some (.ref fa)) : ∃ fd, (∀ (s : Shared) (u : Value), BindsTo s fd ⟨[u], []⟩ [("_law_script", u)]) ∧
    ∀ base : Heap, K.In base → base.Ns mainGlobals mg → FnOk P w K mg base CX0 (24) fa fd ["_law_script"] (spLaw K) := by
  obtain ⟨fd, F, b⟩ := law_fd T.d_law b_law hfa
  obtain ⟨C, cM⟩ := T.o_Region
  obtain ⟨D, cN⟩ := T.o_Mirror
  exact ⟨fd, b, fun base _ _ => (c_law T cM cN).at F hfa⟩
theorem law_sp {H : Hp} {a : Addr} {ns : List Int} (hl : ns.length ≤ 63) (hS : SqL K H a (ns.map V.int)) : spLaw K [.ref a] H (fun v _ => v = .bl true) fun _ _ _ => False := ⟨a, ns, rfl, hS, hl, fun _ => rfl⟩
end

end K14
open PySem PySem.W PyProof.Rows
set_option maxHeartbeats 0 in
theorem PySem.Challenge.cw_allscreens_k14_whole_regions_great_and_s_holds : PySem.Challenge.rw_allscreens_k14_whole_regions_great_and_s.Holds := by
  w_on; o_law; k_head; (case hw => w_witness2)
  k_fill
  refine L2.walk_of (l := PySem.Challenge.rw_allscreens_k14_whole_regions_great_and_s) (n := 63) (k := 24) (x := "_law_script") (CX := fun _ => L2.CX0) (sp := fun w => Lw.spLaw _) rfl (by decide) rfl ⟨rfl, by decide, by decide⟩ (fun w h Y => PySem.W.kIn_of Y) ?F (fun _ _ a ns hl _ hS => K14.law_sp hl hS) (fun _ _ _ _ _ h => h)
  case F =>
    intro w mg fa h KX G hmg
    refine' K14.law_mk ⟨Lw.defAt_mk KX G ?a0 ?l0 ?c0 ?k0, Lw.defAt_mk KX G ?a1 ?l1 ?c1 ?k1, Lw.defAt_mk KX G ?a2 ?l2 ?c2 ?k2, Lw.defAt_mk KX G ?a3 ?l3 ?c3 ?k3, Lw.defAt_mk KX G ?a4 ?l4 ?c4 ?k4, Lw.defAt_mk KX G ?a5 ?l5 ?c5 ?k5, Lw.defAt_mk KX G ?a6 ?l6 ?c6 ?k6, Lw.defAt_mk KX G ?a7 ?l7 ?c7 ?k7, Lw.defAt_mk KX G ?a8 ?l8 ?c8 ?k8, Lw.defAt_mk KX G ?a9 ?l9 ?c9 ?k9, Lw.defAt_mk KX G ?a10 ?l10 ?c10 ?k10, Lw.defAt_mk KX G ?a11 ?l11 ?c11 ?k11, Lw.defAt_mk KX G ?a12 ?l12 ?c12 ?k12, Lw.defAt_mk KX G ?a13 ?l13 ?c13 ?k13, Lw.defAt_mk KX G ?a14 ?l14 ?c14 ?k14, Lw.defAt_mk KX G ?a15 ?l15 ?c15 ?k15, Lw.defAt_mk KX G ?a16 ?l16 ?c16 ?k16, Lw.defAt_mk KX G ?a17 ?l17 ?c17 ?k17, Lw.defAt_mk KX G ?a18 ?l18 ?c18 ?k18, Lw.defAt_mk KX G ?a19 ?l19 ?c19 ?k19, Lw.defAt_mk KX G ?a20 ?l20 ?c20 ?k20, Lw.defAt_mk KX G ?a21 ?l21 ?c21 ?k21, Lw.defAt_mk KX G ?a22 ?l22 ?c22 ?k22, Lw.defAt_mk KX G ?a23 ?l23 ?c23 ?k23, Lw.defAt_mk KX G ?a24 ?l24 ?c24 ?k24, PySem.W.mg_none_of KX G ?z0, PySem.W.mg_none_of KX G ?z1, PySem.W.mg_none_of KX G ?z2, PySem.W.mg_none_of KX G ?z3, PySem.W.mg_none_of KX G ?z4, PySem.W.mg_none_of KX G ?z5, PySem.W.mg_none_of KX G ?z6, PySem.W.mg_none_of KX G ?z7, PySem.W.mg_none_of KX G ?z8, PySem.W.mg_none_of KX G ?z9, PySem.W.mg_none_of KX G ?z10, PySem.W.mg_none_of KX G ?z11, PySem.W.mg_none_of KX G ?z12, PySem.W.mg_none_of KX G ?z13, PySem.W.mg_none_of KX G ?z14, PySem.W.mg_none_of KX G ?z15, PySem.W.mg_none_of KX G ?z16, ⟨_, ⟨Lw.ownC_mk KX G ?ow0_0 ?ow0_1 ?ow0_2 ?ow0_3 ?ow0_4 ?ow0_5 ?ow0_6 ?ow0_7 ?ow0_8 ?ow0_9 ?ow0_10 ?ow0_11 ?ow0_12 ?ow0_13 ?ow0_14, Lw.initC_mk ?oi0_0 ?oi0_1 ?oi0_2 ?oi0_3 ?oi0_4 ?oi0_5 ?oi0_6 ?oi0_7 ?oi0_8, Lw.methC_mk ?om0___call___0 ?om0___call___1 ?om0___call___2 ?om0___call___3 ?om0___call___4 ?om0___call___5, Lw.methC_mk ?om0___eq___0 ?om0___eq___1 ?om0___eq___2 ?om0___eq___3 ?om0___eq___4 ?om0___eq___5, Lw.methC_mk ?om0___mul___0 ?om0___mul___1 ?om0___mul___2 ?om0___mul___3 ?om0___mul___4 ?om0___mul___5, Lw.methC_mk ?om0___invert___0 ?om0___invert___1 ?om0___invert___2 ?om0___invert___3 ?om0___invert___4 ?om0___invert___5, Lw.methC_mk ?om0_image_0 ?om0_image_1 ?om0_image_2 ?om0_image_3 ?om0_image_4 ?om0_image_5, Lw.methC_mk ?om0_moved_0 ?om0_moved_1 ?om0_moved_2 ?om0_moved_3 ?om0_moved_4 ?om0_moved_5⟩⟩, ⟨_, ⟨Lw.ownC_mk KX G ?rw0_0 ?rw0_1 ?rw0_2 ?rw0_3 ?rw0_4 ?rw0_5 ?rw0_6 ?rw0_7 ?rw0_8 ?rw0_9 ?rw0_10 ?rw0_11 ?rw0_12 ?rw0_13 ?rw0_14, Lw.initR_mk ?ri0_0 ?ri0_1 ?ri0_2 ?ri0_3 ?ri0_4 ?ri0_5 ?ri0_6, ?rnb0, Lw.methC_mk ?rm0___len___0 ?rm0___len___1 ?rm0___len___2 ?rm0___len___3 ?rm0___len___4 ?rm0___len___5, Lw.methC_mk ?rm0___contains___0 ?rm0___contains___1 ?rm0___contains___2 ?rm0___contains___3 ?rm0___contains___4 ?rm0___contains___5, Lw.methC_mk ?rm0___or___0 ?rm0___or___1 ?rm0___or___2 ?rm0___or___3 ?rm0___or___4 ?rm0___or___5, Lw.methC_mk ?rm0___and___0 ?rm0___and___1 ?rm0___and___2 ?rm0___and___3 ?rm0___and___4 ?rm0___and___5, Lw.methC_mk ?rm0___sub___0 ?rm0___sub___1 ?rm0___sub___2 ?rm0___sub___3 ?rm0___sub___4 ?rm0___sub___5, Lw.methC_mk ?rm0___eq___0 ?rm0___eq___1 ?rm0___eq___2 ?rm0___eq___3 ?rm0___eq___4 ?rm0___eq___5, Lw.propC_mk ?rp0_rects_0 ?rp0_rects_1 ?rp0_rects_2 ?rp0_rects_3 ?rp0_rects_4 ?rp0_rects_5 ?rp0_rects_6, Lw.propC_mk ?rp0_points_0 ?rp0_points_1 ?rp0_points_2 ?rp0_points_3 ?rp0_points_4 ?rp0_points_5 ?rp0_points_6⟩⟩, Lw.const_mk KX G ?cst0 ?rst0⟩ hmg
    (case a0 => k_is)
    (case l0 => k_is)
    (case c0 => k_is)
    (case k0 => k_is)
    (case a1 => k_is)
    (case l1 => k_is)
    (case c1 => k_is)
    (case k1 => k_is)
    (case a2 => k_is)
    (case l2 => k_is)
    (case c2 => k_is)
    (case k2 => k_is)
    (case a3 => k_is)
    (case l3 => k_is)
    (case c3 => k_is)
    (case k3 => k_is)
    (case a4 => k_is)
    (case l4 => k_is)
    (case c4 => k_is)
    (case k4 => k_is)
    (case a5 => k_is)
    (case l5 => k_is)
    (case c5 => k_is)
    (case k5 => k_is)
    (case a6 => k_is)
    (case l6 => k_is)
    (case c6 => k_is)
    (case k6 => k_is)
    (case a7 => k_is)
    (case l7 => k_is)
    (case c7 => k_is)
    (case k7 => k_is)
    (case a8 => k_is)
    (case l8 => k_is)
    (case c8 => k_is)
    (case k8 => k_is)
    (case a9 => k_is)
    (case l9 => k_is)
    (case c9 => k_is)
    (case k9 => k_is)
    (case a10 => k_is)
    (case l10 => k_is)
    (case c10 => k_is)
    (case k10 => k_is)
    (case a11 => k_is)
    (case l11 => k_is)
    (case c11 => k_is)
    (case k11 => k_is)
    (case a12 => k_is)
    (case l12 => k_is)
    (case c12 => k_is)
    (case k12 => k_is)
    (case a13 => k_is)
    (case l13 => k_is)
    (case c13 => k_is)
    (case k13 => k_is)
    (case a14 => k_is)
    (case l14 => k_is)
    (case c14 => k_is)
    (case k14 => k_is)
    (case a15 => k_is)
    (case l15 => k_is)
    (case c15 => k_is)
    (case k15 => k_is)
    (case a16 => k_is)
    (case l16 => k_is)
    (case c16 => k_is)
    (case k16 => k_is)
    (case a17 => k_is)
    (case l17 => k_is)
    (case c17 => k_is)
    (case k17 => k_is)
    (case a18 => k_is)
    (case l18 => k_is)
    (case c18 => k_is)
    (case k18 => k_is)
    (case a19 => k_is)
    (case l19 => k_is)
    (case c19 => k_is)
    (case k19 => k_is)
    (case a20 => k_is)
    (case l20 => k_is)
    (case c20 => k_is)
    (case k20 => k_is)
    (case a21 => k_is)
    (case l21 => k_is)
    (case c21 => k_is)
    (case k21 => k_is)
    (case a22 => k_is)
    (case l22 => k_is)
    (case c22 => k_is)
    (case k22 => k_is)
    (case a23 => k_is)
    (case l23 => k_is)
    (case c23 => k_is)
    (case k23 => k_is)
    (case a24 => k_is)
    (case l24 => k_is)
    (case c24 => k_is)
    (case k24 => k_is)
    (case z0 => k_is)
    (case z1 => k_is)
    (case z2 => k_is)
    (case z3 => k_is)
    (case z4 => k_is)
    (case z5 => k_is)
    (case z6 => k_is)
    (case z7 => k_is)
    (case z8 => k_is)
    (case z9 => k_is)
    (case z10 => k_is)
    (case z11 => k_is)
    (case z12 => k_is)
    (case z13 => k_is)
    (case z14 => k_is)
    (case z15 => k_is)
    (case z16 => k_is)
    (case ow0_0 => k_is)
    (case ow0_1 => k_is)
    (case ow0_2 => k_is)
    (case ow0_3 => k_is)
    (case ow0_4 => k_is)
    (case ow0_5 => k_is)
    (case ow0_6 => k_is)
    (case ow0_7 => k_is)
    (case ow0_8 => k_is)
    (case ow0_9 => k_is)
    (case ow0_10 => kernel_rfl)
    (case ow0_11 => kernel_rfl)
    (case ow0_12 => k_is)
    (case ow0_13 => k_is)
    (case ow0_14 => k_is)
    (case oi0_0 => k_is)
    (case oi0_1 => k_is)
    (case oi0_2 => k_is)
    (case oi0_3 => k_is)
    (case oi0_4 => k_is)
    (case oi0_5 => k_is)
    (case oi0_6 => k_is)
    (case oi0_7 => k_is)
    (case oi0_8 => k_is)
    (case om0___call___0 => k_is)
    (case om0___call___1 => k_is)
    (case om0___call___2 => k_is)
    (case om0___call___3 => k_is)
    (case om0___call___4 => k_is)
    (case om0___call___5 => k_is)
    (case om0___eq___0 => k_is)
    (case om0___eq___1 => k_is)
    (case om0___eq___2 => k_is)
    (case om0___eq___3 => k_is)
    (case om0___eq___4 => k_is)
    (case om0___eq___5 => k_is)
    (case om0___mul___0 => k_is)
    (case om0___mul___1 => k_is)
    (case om0___mul___2 => k_is)
    (case om0___mul___3 => k_is)
    (case om0___mul___4 => k_is)
    (case om0___mul___5 => k_is)
    (case om0___invert___0 => k_is)
    (case om0___invert___1 => k_is)
    (case om0___invert___2 => k_is)
    (case om0___invert___3 => k_is)
    (case om0___invert___4 => k_is)
    (case om0___invert___5 => k_is)
    (case om0_image_0 => k_is)
    (case om0_image_1 => k_is)
    (case om0_image_2 => k_is)
    (case om0_image_3 => k_is)
    (case om0_image_4 => k_is)
    (case om0_image_5 => k_is)
    (case om0_moved_0 => k_is)
    (case om0_moved_1 => k_is)
    (case om0_moved_2 => k_is)
    (case om0_moved_3 => k_is)
    (case om0_moved_4 => k_is)
    (case om0_moved_5 => k_is)
    (case rw0_0 => k_is)
    (case rw0_1 => k_is)
    (case rw0_2 => k_is)
    (case rw0_3 => k_is)
    (case rw0_4 => k_is)
    (case rw0_5 => k_is)
    (case rw0_6 => k_is)
    (case rw0_7 => k_is)
    (case rw0_8 => k_is)
    (case rw0_9 => k_is)
    (case rw0_10 => kernel_rfl)
    (case rw0_11 => kernel_rfl)
    (case rw0_12 => k_is)
    (case rw0_13 => k_is)
    (case rw0_14 => k_is)
    (case ri0_0 => k_is)
    (case ri0_1 => k_is)
    (case ri0_2 => k_is)
    (case ri0_3 => k_is)
    (case ri0_4 => k_is)
    (case ri0_5 => k_is)
    (case ri0_6 => k_is)
    (case rnb0 => k_is)
    (case rm0___len___0 => k_is)
    (case rm0___len___1 => k_is)
    (case rm0___len___2 => k_is)
    (case rm0___len___3 => k_is)
    (case rm0___len___4 => k_is)
    (case rm0___len___5 => k_is)
    (case rm0___contains___0 => k_is)
    (case rm0___contains___1 => k_is)
    (case rm0___contains___2 => k_is)
    (case rm0___contains___3 => k_is)
    (case rm0___contains___4 => k_is)
    (case rm0___contains___5 => k_is)
    (case rm0___or___0 => k_is)
    (case rm0___or___1 => k_is)
    (case rm0___or___2 => k_is)
    (case rm0___or___3 => k_is)
    (case rm0___or___4 => k_is)
    (case rm0___or___5 => k_is)
    (case rm0___and___0 => k_is)
    (case rm0___and___1 => k_is)
    (case rm0___and___2 => k_is)
    (case rm0___and___3 => k_is)
    (case rm0___and___4 => k_is)
    (case rm0___and___5 => k_is)
    (case rm0___sub___0 => k_is)
    (case rm0___sub___1 => k_is)
    (case rm0___sub___2 => k_is)
    (case rm0___sub___3 => k_is)
    (case rm0___sub___4 => k_is)
    (case rm0___sub___5 => k_is)
    (case rm0___eq___0 => k_is)
    (case rm0___eq___1 => k_is)
    (case rm0___eq___2 => k_is)
    (case rm0___eq___3 => k_is)
    (case rm0___eq___4 => k_is)
    (case rm0___eq___5 => k_is)
    (case rp0_rects_0 => k_is)
    (case rp0_rects_1 => k_is)
    (case rp0_rects_2 => k_is)
    (case rp0_rects_3 => k_is)
    (case rp0_rects_4 => k_is)
    (case rp0_rects_5 => k_is)
    (case rp0_rects_6 => k_is)
    (case rp0_points_0 => k_is)
    (case rp0_points_1 => k_is)
    (case rp0_points_2 => k_is)
    (case rp0_points_3 => k_is)
    (case rp0_points_4 => k_is)
    (case rp0_points_5 => k_is)
    (case rp0_points_6 => k_is)
    (case cst0 => k_is)
    (case rst0 => exact ⟨_, rfl⟩)
