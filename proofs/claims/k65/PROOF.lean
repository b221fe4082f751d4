import PyProof.Rows.All
import Wide.All
import OpenK.AllK
import Wide.FinOn
import KE.KStateDown
import Lean
import HandS.ForMost
import HandS.Defaults
import HandS.Evl
import HandS.IsInst
import HandS.TupAny
import HandS.TupSets
import HandS.Wide
import HandS.Deep
import HandS.DictComp
import HandS.HeadEnd
import HandS.TryOnly
import HandS.Head0
import HandS.Head1
import HandS.Head2
import HandS.HeadHook1
import HandS.HeadHook2
import HandS.SortInts
import KE.SortData
import HandS.Exc
import HandS.ExcInit
import HandS.ExcOwn
import HandS.ExcField
import HandS.ExcValue
import KE.KExcSuper
import KE.KSuper
import HandS.Style
import PyProof.Rows.StrRev
import HandS.Iter
import KE.DataMinMax
import PyProof.StrOps2
import HandS.Sort
import PyProof.TupleOfSeq
import PySem.Challenge.RW_surepieces_k65_whole_windows_that_join
set_option Elab.async false
set_option linter.all false
set_option maxRecDepth 100000
set_option maxHeartbeats 4000000
namespace My
open PySem PySem.Spec PyProof.Rows L2 Evl
/-! ### a def's promise where no repr is under way (guards) -/
structure FnG (P : Program) (w : World) (K : PySem.W.Frag) (mg : Str → Option Value) (base : Heap) (CX : CXT) (k : Nat) (f : Addr) (fd : FuncData) (ps : List Str) (sp : Sp) : Prop where
  len : ∀ vs H Q E, sp vs H Q E → vs.length = ps.length
  run : ∀ (A : Around) (outer : List Env) (st : Shared) (H : Hp) (args : Args) (us : List Value) (vs : List V) (Q : VK) (E : XK), A.guards = some [] → Room k A → Env0 P w K mg base A outer st H →
    BindsTo st fd args (ps.zip us) → Vals vs us → sp vs H Q E → codeAny (model P w) A (.call (.ref f) args) (CR CX outer P w H st Q E) st
section
variable {P : Program} {w : World} {K : PySem.W.Frag} {mg : Str → Option Value} {base : Heap} {CX : CXT} {x qual : Str} {params : Arguments} {body : List Stmt} {scope : Scope} {dvs : List V} {kws : List (Str × V)} {f : Addr} {fd : FuncData}
theorem FnG.of {k : Nat} {ps : List Str} {sp : Sp} (G : FnOk P w K mg base CX k f fd ps sp) : FnG P w K mg base CX k f fd ps sp := ⟨G.len, fun A outer st H args us vs Q E _ => G.run A outer st H args us vs Q E⟩
theorem FnG.imp {k : Nat} {ps : List Str} {sp sp' : Sp} (G : FnG P w K mg base CX k f fd ps sp) (h : ∀ vs H Q E, sp' vs H Q E → sp vs H Q E) : FnG P w K mg base CX k f fd ps sp' :=
  ⟨fun vs H Q E q => G.len vs H Q E (h _ _ _ _ q), fun A outer st H args us vs Q E hg hr he hb hv hs => G.run A outer st H args us vs Q E hg hr he hb hv (h _ _ _ _ hs)⟩
/-- a def of the text by its body -/
theorem fn_g {N ps : List Str} {k : Nat} {sp : Sp} (F : FunD K x qual params body scope dvs kws f fd) (S : FnScope N ps scope) (len : ∀ vs H Q E, sp vs H Q E → vs.length = ps.length)
    (hb : ∀ (cdv : Value) (A : Around) (outer : List Env) (st : Shared) (H : Hp) (vs : List V) (Q : VK) (E : XK), (A.deeper (envOfC qual scope st.heap.objs.size f cdv)).guards = some [] → Room k (A.deeper (envOfC qual scope st.heap.objs.size f cdv)) → sp vs H Q E →
      ∃ t, PSs (cxOf CX P w K mg base N qual scope f cdv A outer st H E) body t ∧ t { nx := fun _ H' => Q .non H', rt := Q } (start N vs) H) : FnG P w K mg base CX (k + 1) f fd ps sp := by
  obtain ⟨oc, od, dV, kV, doc, pm, an, cdv, ct, osl, rfl, lk, hcd, _, _⟩ := F.ex
  refine ⟨len, fun A outer st H args us vs Q E hgd hroom henv hbd hvals hsp => ?_⟩
  have hlen := len _ _ _ _ hsp
  have kin : K.In st.heap := henv.mod.kin.keeps fun b o e => (henv.bs b o e).1
  have nolim : st.heap.NoLimit := henv.mod.nolimit.keeps fun b o e => (henv.bs b o e).1
  have kinds : ∀ y ∈ ps.zip us, scope.names.lookup y.1 = some .local ∨ (scope.names.lookup y.1 = some .cell ∧ ((cellsFrom (st.heap.objs.size + 1) scope.names []).lookup y.1).isSome = true) := fun ⟨n, v⟩ hy =>
    (S.par n (List.of_mem_zip hy).1).elim .inl fun q => .inr ⟨q, PySem.W.cellsFrom_some _ _ _ (.inl q)⟩
  refine codeAny_call_function hroom.depth (kin _ _ lk) rfl S.co S.gen rfl (PySem.W.codeRec_of kin hcd) (hbd _ _ _ _ ?_)
  refine wpAny_newFunctionEnv_cells S.kind kinds fun env heq s1 inC => ?_
  subst heq
  refine ⟨nolim.keeps inC.toInCall.keep, codeAny_func ?_⟩
  obtain ⟨t, ht, hq⟩ := hb cdv A outer st H vs Q E hgd (hroom.deeper _) hsp
  have I0 : Inv (cxOf CX P w K mg base N qual scope f cdv A outer st H E) [] (start N vs) H s1 := inv_start S hroom.hd henv hlen hvals inC
  refine wpAny_mono (ht.run [] s1 (start N vs) H _ I0 hq) (fun fl s' hs => ?_) fun e s' hs => hs
  have fin : ∀ {σ2 : L2.St} {H2 : Hp} {v : V} {u : Value}, Inv (cxOf CX P w K mg base N qual scope f cdv A outer st H E) [] σ2 H2 s' → RelV v u → Q v H2 → CE outer P w H st Q u s' :=
    fun {σ2 H2 v u} J rv q => ⟨v, H2, J.os, J.bare, J.base, J.hok, rv, q⟩
  cases fl with
  | ret u =>
    obtain ⟨v, _, _, J, rv, q⟩ := hs
    exact fin J rv q
  | next =>
    obtain ⟨_, _, J, q⟩ := hs
    exact fin (v := V.non) (u := Value.none) J rfl q
  | brk =>
    obtain ⟨_, _, _, q⟩ := hs
    exact q.elim
  | cont =>
    obtain ⟨_, _, _, q⟩ := hs
    exact q.elim
end
def FdAt (K : PySem.W.Frag) (f : Addr) (fd : FuncData) : Prop := ∃ oc od osl, K.lookup f = some ⟨oc, od, .func fd, osl⟩
/-- a def by its name: what it keeps -/
def Ok (P : Program) (w : World) (K : PySem.W.Frag) (mg : Str → Option Value) (base : Heap) (CX : CXT) (k : Nat) (x : Str) (ps : List Str) (sp : Sp) : Prop :=
  ∃ f fd, FnG P w K mg base CX k f fd ps sp ∧ Binds K fd ps [] ∧ mg x = some (.ref f) ∧ PySem.W.keepIn K (.ref f) = true ∧ FdAt K f fd
theorem fdAt_of {K : PySem.W.Frag} {x qual : Str} {params : Arguments} {body : List Stmt} {scope : Scope} {dvs : List V} {kws : List (Str × V)} {f : Addr} {fd : FuncData} (F : FunD K x qual params body scope dvs kws f fd) : FdAt K f fd := by
  obtain ⟨oc, od, _, _, _, _, _, _, _, osl, _, lk, _⟩ := F.ex
  exact ⟨oc, od, osl, lk⟩
theorem fdAt_eq {K : PySem.W.Frag} {f : Addr} {fd fe : FuncData} (a : FdAt K f fd) (b : FdAt K f fe) : fd = fe := by
  obtain ⟨_, _, _, h1⟩ := a
  obtain ⟨_, _, _, h2⟩ := b
  rw [h1] at h2
  cases h2
  rfl
abbrev FnP (K : PySem.W.Frag) (x : Str) (st : Stmt) (f : Addr) (fd : FuncData) : Prop := FunD K x x (defArgs st) (defBody st) (defScope st) [] [] f fd
def DefAt (K : PySem.W.Frag) (mg : Str → Option Value) (x : Str) (st : Stmt) (ps : List Str) : Prop := ∃ f fd, FnP K x st f fd ∧ Binds K fd ps [] ∧ mg x = some (.ref f)
section
variable {P : Program} {w : World} {K : PySem.W.Frag} {mg : Str → Option Value} {base : Heap} {CX : CXT} {x : Str} {st : Stmt}
/-- a def's promise from its place in the text -/
theorem DefAt.ok {N ps : List Str} {k : Nat} {sp : Sp} (D : DefAt K mg x st ps) (S : FnScope N ps (defScope st)) (len : ∀ vs H Q E, sp vs H Q E → vs.length = ps.length)
    (hb : ∀ (f : Addr) (cdv : Value) (A : Around) (outer : List Env) (s : Shared) (H : Hp) (vs : List V) (Q : VK) (E : XK), (A.deeper (envOfC x (defScope st) s.heap.objs.size f cdv)).guards = some [] → Room k (A.deeper (envOfC x (defScope st) s.heap.objs.size f cdv)) → sp vs H Q E →
      ∃ t, PSs (cxOf CX P w K mg base N x (defScope st) f cdv A outer s H E).nox (defBody st) t ∧ t { nx := fun _ H' => Q .non H', rt := Q } (start N vs) H) : Ok P w K mg base CX (k + 1) x ps sp := by
  obtain ⟨f, fd, F, b, g⟩ := D
  refine ⟨f, fd, fn_g F S len fun cdv A outer s H vs Q E hg hr h => ?_, b, g, F.kp, fdAt_of F⟩
  obtain ⟨t, ht, q⟩ := hb f cdv A outer s H vs Q E hg hr h
  exact ⟨t, ht.nox, q⟩
/-- the same of a def that an exception may leave -/
theorem DefAt.okX {N ps : List Str} {k : Nat} {sp : Sp} (D : DefAt K mg x st ps) (S : FnScope N ps (defScope st)) (len : ∀ vs H Q E, sp vs H Q E → vs.length = ps.length)
    (hb : ∀ (f : Addr) (cdv : Value) (A : Around) (outer : List Env) (s : Shared) (H : Hp) (vs : List V) (Q : VK) (E : XK), (A.deeper (envOfC x (defScope st) s.heap.objs.size f cdv)).guards = some [] → Room k (A.deeper (envOfC x (defScope st) s.heap.objs.size f cdv)) → sp vs H Q E →
      ∃ t, PSs (cxOf CX P w K mg base N x (defScope st) f cdv A outer s H E) (defBody st) t ∧ t { nx := fun _ H' => Q .non H', rt := Q } (start N vs) H) : Ok P w K mg base CX (k + 1) x ps sp := by
  obtain ⟨f, fd, F, b, g⟩ := D
  exact ⟨f, fd, fn_g F S len fun cdv A outer s H vs Q E hg hr h => hb f cdv A outer s H vs Q E hg hr h, b, g, F.kp, fdAt_of F⟩
theorem Ok.imp {k : Nat} {ps : List Str} {sp sp' : Sp} (G : Ok P w K mg base CX k x ps sp) (h : ∀ vs H Q E, sp' vs H Q E → sp vs H Q E) : Ok P w K mg base CX k x ps sp' := by
  obtain ⟨f, fd, F, b, g, kp⟩ := G
  exact ⟨f, fd, F.imp h, b, g, kp⟩
end
section
variable {X : Cx} {CX : CXT} {k : Nat} {x : Str} {ps : List Str} {sp : Sp} {E : XK} {p pos : Pos} {e : Expr} {es : List Expr} {t : TA}
theorem run_g {f : Addr} {fd : FuncData} {pins : List (Addr × Obj)} {σ : L2.St} {H : Hp} {st : Shared} {Q : VK} {us : List Value} {vs : List V} (F : FnG X.prog X.w X.K X.mg X.base CX k f fd ps sp) (hg : X.A.guards = some []) (hr : Room k X.A) (hb : Binds X.K fd ps []) (hx : Passes CX X E)
    (I : Inv X pins σ H st) (r : Vals vs us) (h : sp vs H Q E) : wpAny (model X.prog X.w) X.A (call (.ref f) us) (EP X pins σ Q) X.xe st := by
  have hn : (us ++ []).length = ps.length := by rw [List.append_nil, ← r.length]; exact F.len _ _ _ _ h
  have hbt : BindsTo st fd ⟨us, []⟩ (ps.zip us) := by
    have z := hb st us I.kIn hn
    rw [List.append_nil] at z
    exact z
  refine wpAny_call (codeAny_mono (F.run X.A X.stack st H ⟨us, []⟩ us vs Q E hg hr I.env0 hbt r h) fun res s2 hq => ?_)
  cases res with
  | error err => exact hx pins σ H st err s2 I hq
  | ok fl =>
    cases fl with
    | ret u => exact I.after hq
    | next => exact hq.elim
    | brk => exact hq.elim
    | cont => exact hq.elim
/-- f(e, ..): what sp asks of the arguments -/
def tCl (sp : Sp) (E : XK) (t : TA) : TE := fun σ H Q => t σ H fun vs H1 => sp vs H1 Q E
theorem pe_callX (G : Ok X.prog X.w X.K X.mg X.base CX k x ps sp) (hgd : X.A.guards = some []) (hr : Room k X.A) (hx : Passes CX X E) (ha : PA X (e :: es) t) (hg : Gl X x := by rfl)
    (hdb : (x == ("__debug__" : Str)) = false := by decide) (he : starEach (e :: es) X.env = (false, eval e X.env) :: starEach es X.env := by rfl) (hpl : (backTo pos (starEach es X.env)).any (·.1) = false := by rfl) :
    PE X (.Call (.Name x p) (e :: es) [] pos) (tCl sp E t) := by
  obtain ⟨f, fd, F, hb, hm, hk, _⟩ := G
  refine ⟨fun pins st σ H Q I h => ?_⟩
  refine wpAny_Call_Name_kw (ld_glob I hg hm ?_ hdb)
  refine PySem.W.callWith_K (h₀ := X.base) I.ok.mod.kin hk (thn (ha.run pos pins st σ H _ I h) fun us s2 ⟨vs, H2, I2, rv, q⟩ => ⟨I2.kIn, run_g F hgd hr hb hx I2 rv q⟩) he hpl
theorem pe_callO (G : Ok X.prog X.w X.K X.mg X.base CX0 k x ps sp) (hgd : X.A.guards = some []) (hr : Room k X.A) (ha : PA X (e :: es) t) (hg : Gl X x := by rfl)
    (hdb : (x == ("__debug__" : Str)) = false := by decide) (he : starEach (e :: es) X.env = (false, eval e X.env) :: starEach es X.env := by rfl) (hpl : (backTo pos (starEach es X.env)).any (·.1) = false := by rfl) :
    PE X (.Call (.Name x p) (e :: es) [] pos) (tCl sp E0 t) := pe_callX G hgd hr pass0 ha hg hdb he hpl
/-! ### f(k = v, ..), every parameter by its name: idx puts the written values in the parameters' order -/
def ordG {α : Type} (idx : List Nat) (l : List α) : List α := idx.filterMap (l[·]?)
theorem ord_rel {idx : List Nat} {zs : List V} {ws : List Value} (r : Vals zs ws) : Vals (ordG idx zs) (ordG idx ws) := by
  unfold ordG
  induction idx with
  | nil => exact .nil
  | cons i idx ih =>
    cases hz : zs[i]? with
    | none =>
      rw [List.filterMap_cons_none hz, List.filterMap_cons_none (Vals.none_of r hz)]
      exact ih
    | some z =>
      obtain ⟨u, hu, rz⟩ := Vals.get r hz
      rw [List.filterMap_cons_some hz, List.filterMap_cons_some hu]
      exact .cons rz ih
def KbAt (K : PySem.W.Frag) (mg : Str → Option Value) (x : Str) (ps ks : List Str) (idx : List Nat) : Prop :=
  ∃ f fd, mg x = some (.ref f) ∧ FdAt K f fd ∧ ∀ ws : List Value, ws.length = ks.length → bindArgs fd ⟨[], ks.zip ws⟩ = pure (ps.zip (ordG idx ws))
theorem KbAt.of {K : PySem.W.Frag} {mg : Str → Option Value} {x : Str} {st : Stmt} {f : Addr} {fd : FuncData} {ps ks : List Str} {idx : List Nat} (F : FnP K x st f fd) (hm : mg x = some (.ref f))
    (h : ∀ (kV doc pm : Value) (an : Option Addr) (cdv ct : Value) (ws : List Value), ws.length = ks.length → bindArgs (PySem.W.fnOf x x (defArgs st) (defBody st) (defScope st) .none kV doc pm an cdv ct) ⟨[], ks.zip ws⟩ = pure (ps.zip (ordG idx ws))) : KbAt K mg x ps ks idx := by
  refine ⟨f, fd, hm, fdAt_of F, ?_⟩
  obtain ⟨_, _, dV, kV, doc, pm, an, cdv, ct, _, rfl, _, _, hD, _⟩ := F.ex
  rcases hD with ⟨_, rfl⟩ | ⟨e, _⟩
  · exact h kV doc pm an cdv ct
  · exact absurd rfl e
def tClK (sp : Sp) (n : Nat) (idx : List Nat) (E : XK) (tk : TA) : TE := fun σ H Q => tk σ H fun zs H1 => zs.length = n ∧ sp (ordG idx zs) H1 Q E
theorem pe_callKX {kws : List Keyword} {ks : List Str} {idx : List Nat} {tk : TA} (G : Ok X.prog X.w X.K X.mg X.base CX k x ps sp) (kb : KbAt X.K X.mg x ps ks idx) (hgd : X.A.guards = some []) (hr : Room k X.A) (hx : Passes CX X E) (hkw : PK X kws tk) (hg : Gl X x := by rfl)
    (hall : (backToKw pos (keywordEach kws X.env)).all (·.1.isSome) = true := by rfl) (hks : (backToKw pos (keywordEach kws X.env)).filterMap (·.1) = ks := by rfl) (hdb : (x == ("__debug__" : Str)) = false := by decide)
    (hpl : ((backTo pos (starEach [] X.env)).any (·.1) || (backToKw pos (keywordEach kws X.env)).any (·.1.isNone)) = false := by rfl) : PE X (.Call (.Name x p) [] kws pos) (tClK sp ks.length idx E tk) := by
  obtain ⟨f, fd, F, _, hm, hk, fa⟩ := G
  obtain ⟨f2, fe, hm2, fb, bind⟩ := kb
  obtain rfl : f = f2 := by
    rw [hm] at hm2
    cases hm2
    rfl
  obtain rfl := fdAt_eq fa fb
  constructor
  intro pins st σ H Q I want
  apply wpAny_Call_Name_kw
  apply ld_glob I hg hm ?_ hdb
  refine PySem.W.callWith_KW0 (h₀ := X.base) I.ok.mod.kin hk hall ?_ hpl
  · apply thn (hkw.run pos pins st σ H _ I want)
    rintro ws s2 ⟨zs, H2, I2, rz, hlen, sat⟩
    refine ⟨I2.kIn, ?_⟩
    rw [hks]
    have r2 : Vals (ordG idx zs) (ordG idx ws) := ord_rel rz
    have hl2 : ws.length = ks.length := by rw [← rz.length, hlen]
    show wpAny (model X.prog X.w) X.A (call (.ref f) [] (ks.zip ws)) (EP X pins σ Q) X.xe s2
    refine wpAny_call (codeAny_mono (F.run X.A X.stack s2 H2 ⟨[], ks.zip ws⟩ (ordG idx ws) (ordG idx zs) Q E hgd hr I2.env0 (.of_eq (bind ws hl2)) r2 sat) fun res s3 hq => ?_)
    cases res with
    | error err => exact hx pins σ H2 s2 err s3 I2 hq
    | ok fl =>
      cases fl with
      | ret u => exact I2.after hq
      | next => exact hq.elim
      | brk => exact hq.elim
      | cont => exact hq.elim
theorem pe_callKO {kws : List Keyword} {ks : List Str} {idx : List Nat} {tk : TA} (G : Ok X.prog X.w X.K X.mg X.base CX0 k x ps sp) (kb : KbAt X.K X.mg x ps ks idx) (hgd : X.A.guards = some []) (hr : Room k X.A) (hkw : PK X kws tk) (hg : Gl X x := by rfl)
    (hall : (backToKw pos (keywordEach kws X.env)).all (·.1.isSome) = true := by rfl) (hks : (backToKw pos (keywordEach kws X.env)).filterMap (·.1) = ks := by rfl) (hdb : (x == ("__debug__" : Str)) = false := by decide)
    (hpl : ((backTo pos (starEach [] X.env)).any (·.1) || (backToKw pos (keywordEach kws X.env)).any (·.1.isNone)) = false := by rfl) : PE X (.Call (.Name x p) [] kws pos) (tClK sp ks.length idx E0 tk) := pe_callKX G kb hgd hr pass0 hkw hg hall hks hdb hpl
/-- constants of the module, built-in types as values -/
theorem pe_gint {i : Int} (h : ∃ t, X.mg x = some (.int i t)) (hg : Gl X x := by rfl) (hd : (x == ("__debug__" : Str)) = false := by decide) : PE X (.Name x pos) (tC (.int i)) := by
  obtain ⟨t, ht⟩ := h
  exact pe_glob hg ht ⟨t, rfl⟩ hd
theorem pe_gstr {z : Str} (h : ∃ t, X.mg x = some (.str z t)) (hg : Gl X x := by rfl) (hd : (x == ("__debug__" : Str)) = false := by decide) : PE X (.Name x pos) (tC (.str z)) := by
  obtain ⟨t, ht⟩ := h
  exact pe_glob hg ht ⟨t, rfl⟩ hd
theorem pe_gty {T : String} (hm : X.mg x = none) (hv : bootBuiltins x = some (.type T)) (hg : Gl X x := by rfl) (hn : x ≠ "__name__" := by decide) (hd : (x == ("__debug__" : Str)) = false := by decide) : PE X (.Name x pos) (tC (.ty T)) :=
  pe_bltn hg hm hv rfl hn hd
end
/-! ### a list or a tuple, walked -/
def Sq (K : PySem.W.Frag) (H : Hp) (a : Addr) (xs : List V) : Prop := SqL K H a xs ∨ SqT K H a xs
def iSeq (K : PySem.W.Frag) (tl : TE) : TI := fun σ H R => tl σ H fun x H1 => ∃ a, x = .ref a ∧ (((∃ xs, SqL K H1 a xs) ∧ R (Itl K a) H1) ∨ ((∃ xs, SqT K H1 a xs) ∧ R (Itt K a) H1))
theorem pi_seq {X : Cx} {tg l : Expr} {tl : TE} (hl : PE X l tl) : PI X tg l (iSeq X.K tl) := by
  refine ⟨fun pins st σ H R I h => ?_⟩
  refine thn (hl.run pins st σ H _ I h) fun v s2 ⟨x, H2, I2, rx, a, ex, q⟩ => ?_
  subst ex
  cases rx
  have fresh : ∀ b ∈ [s2.heap.objs.size], FpOk X pins H2 b := fun b hb => by
    obtain rfl := List.mem_singleton.mp hb
    exact I2.fpOk (Nat.le_refl _) (I2.hok.fresh (Nat.le_refl _))
  rcases q with ⟨⟨xs, hq⟩, qr⟩ | ⟨⟨xs, hq⟩, qr⟩
  · obtain ⟨its, rv, pl, _⟩ := I2.list hq
    exact wpAny_pyIter_list pl.isList ⟨s2.heap.objs.size, [s2.heap.objs.size], _, _, H2, rfl, I2.kept (t' := s2.toks) fun b o e => Heap.get?_push_of_some _ e, turn_list a _, ⟨_, Heap.get?_push_size _ rfl, rfl, rfl⟩, fresh, qr⟩
  · obtain ⟨its, rv, pl, _⟩ := I2.tuple hq
    exact wpAny_pyIter_tuple (show s2.heap.IsTuple a its.toArray from pl) ⟨s2.heap.objs.size, [s2.heap.objs.size], _, _, H2, rfl, I2.kept (t' := s2.toks) fun b o e => Heap.get?_push_of_some _ e, turn_tuple a _, ⟨_, Heap.get?_push_size _ rfl, rfl, rfl⟩, fresh, qr⟩
/-! ### heaps: a new object, a changed one -/
theorem new_ {o : HO} {H : Hp} {Q : VK} (h : ∀ p H', H p = none → Ex H H' → H' p = some o → Q (.ref p) H') : ∀ p, H p = none → Q (.ref p) (upd H p o) := fun p np => h p _ np (Ex.new np) upd_same
/-- all but p is as it was -/
def Mu (p : Addr) (H H' : Hp) : Prop := ∀ q, q ≠ p → H' q = H q
theorem mut_ {o' : HO} {H : Hp} {p : Addr} {G : Hp → Prop} (h : ∀ H', Mu p H H' → H' p = some o' → G H') : G (upd H p o') := h _ (fun q hq => upd_ne hq) upd_same
theorem Mu.ex {Hb H H' : Hp} {p : Addr} (m : Mu p H H') (e : Ex Hb H) (np : Hb p = none) : Ex Hb H' := fun q o h => by
  rw [m q (ne_of_none h np)]
  exact e q o h
theorem Mu.at {H H' : Hp} {p q : Addr} {o : HO} (m : Mu p H H') (h : H q = some o) (hn : q ≠ p) : H' q = some o := by
  rw [m q hn]
  exact h
theorem ne_free {H : Hp} {a b : Addr} {o : HO} (h : H a = some o) (h' : H b = none) : b ≠ a := fun e => ne_of_none h h' e.symm
theorem ex_d {H H' : Hp} {a : Addr} {o : HO} (e : Ex H H') (h : H a = some o) : H' a = some o := e a o h
theorem ex_sq {K : PySem.W.Frag} {H H' : Hp} {a : Addr} {xs : List V} (e : Ex H H') (h : Sq K H a xs) : Sq K H' a xs := h.elim (fun q => .inl (ex_l e q)) fun q => .inr (ex_t e q)
/-! ### data -/
mutual
theorem dp_ex {K : PySem.W.Frag} {H H' : Hp} (e : Ex H H') : ∀ {v : V} {d : PyData}, Dp K H v d → Dp K H' v d
  | _, _, .non => .non
  | _, _, .bl b => .bl b
  | _, _, .int i => .int i
  | _, _, .str x => .str x
  | _, _, .lst h ha => .lst (ex_l e h) (dpa_ex e ha)
  | _, _, .tup h ha => .tup (ex_t e h) (dpa_ex e ha)
theorem dpa_ex {K : PySem.W.Frag} {H H' : Hp} (e : Ex H H') : ∀ {vs : List V} {ds : List PyData}, DpAll K H vs ds → DpAll K H' vs ds
  | _, _, .nil => .nil
  | _, _, .cons h t => .cons (dp_ex e h) (dpa_ex e t)
end
section
variable {K : PySem.W.Frag} {H : Hp} {v : V} {vs : List V} {d : PyData} {ds : List PyData}
theorem dp_int {i : Int} (h : Dp K H v (.int i)) : v = .int i := by cases h; rfl
theorem dp_str {x : Str} (h : Dp K H v (.str x)) : v = .str x := by cases h; rfl
theorem dp_bl {b : Bool} (h : Dp K H v (.bool b)) : v = .bl b := by cases h; rfl
theorem dp_non (h : Dp K H v .none) : v = .non := by cases h; rfl
theorem dp_tup (h : Dp K H v (.tuple ds)) : ∃ a xs, v = .ref a ∧ SqT K H a xs ∧ DpAll K H xs ds := by
  cases h with
  | tup h1 h2 => exact ⟨_, _, rfl, h1, h2⟩
theorem dp_lst (h : Dp K H v (.list ds)) : ∃ a xs, v = .ref a ∧ SqL K H a xs ∧ DpAll K H xs ds := by
  cases h with
  | lst h1 h2 => exact ⟨_, _, rfl, h1, h2⟩
theorem dpa_len : ∀ {vs : List V} {ds : List PyData}, DpAll K H vs ds → vs.length = ds.length
  | _, _, .nil => rfl
  | _, _, .cons _ t => congrArg Nat.succ (dpa_len t)
theorem dpa_get : ∀ {vs : List V} {ds : List PyData} {i : Nat} {v : V}, DpAll K H vs ds → vs[i]? = some v → ∃ d, ds[i]? = some d ∧ Dp K H v d
  | _, _, _, _, .nil, e => by simp at e
  | _, _, 0, _, .cons h _, e => by
    obtain rfl := Option.some.inj e
    exact ⟨_, rfl, h⟩
  | _, _, i + 1, _, .cons _ t, e => dpa_get (i := i) t e
theorem dpa_at : ∀ {vs : List V} {ds : List PyData} {i : Nat} {d : PyData}, DpAll K H vs ds → ds[i]? = some d → ∃ v, vs[i]? = some v ∧ Dp K H v d
  | _, _, _, _, .nil, e => by simp at e
  | _, _, 0, _, .cons h _, e => by
    obtain rfl := Option.some.inj e
    exact ⟨_, rfl, h⟩
  | _, _, i + 1, _, .cons _ t, e => dpa_at (i := i) t e
theorem dpa_app : ∀ {vs ws : List V} {ds es : List PyData}, DpAll K H vs ds → DpAll K H ws es → DpAll K H (vs ++ ws) (ds ++ es)
  | _, _, _, _, .nil, h => h
  | _, _, _, _, .cons h t, h2 => .cons h (dpa_app t h2)
theorem dpa_one (h : Dp K H v d) : DpAll K H [v] [d] := .cons h .nil
theorem dpa_strs : ∀ (ws : List Str), DpAll K H (ws.map V.str) (ws.map PyData.str)
  | [] => .nil
  | w :: ws => .cons (.str w) (dpa_strs ws)
theorem dpa_ints : ∀ (ns : List Int), DpAll K H (ns.map V.int) (ns.map PyData.int)
  | [] => .nil
  | n :: ns => .cons (.int n) (dpa_ints ns)
theorem dpa_bls : ∀ (bs : List Bool), DpAll K H (bs.map V.bl) (bs.map PyData.bool)
  | [] => .nil
  | n :: ns => .cons (.bl n) (dpa_bls ns)
theorem strs_dpa : ∀ {vs : List V} {ws : List Str}, DpAll K H vs (ws.map PyData.str) → vs = ws.map V.str
  | [], [], _ => rfl
  | _ :: _, [], h => nomatch h
  | [], _ :: _, h => nomatch h
  | v :: vs, w :: ws, h => by
    cases h with
    | cons h t => rw [dp_str h, strs_dpa t]; rfl
theorem ints_dpa : ∀ {vs : List V} {ws : List Int}, DpAll K H vs (ws.map PyData.int) → vs = ws.map V.int
  | [], [], _ => rfl
  | _ :: _, [], h => nomatch h
  | [], _ :: _, h => nomatch h
  | v :: vs, w :: ws, h => by
    cases h with
    | cons h t => rw [dp_int h, ints_dpa t]; rfl
theorem bls_dpa : ∀ {vs : List V} {ws : List Bool}, DpAll K H vs (ws.map PyData.bool) → vs = ws.map V.bl
  | [], [], _ => rfl
  | _ :: _, [], h => nomatch h
  | [], _ :: _, h => nomatch h
  | v :: vs, w :: ws, h => by
    cases h with
    | cons h t => rw [dp_bl h, bls_dpa t]; rfl
abbrev strsT (ws : List Str) : PyData := .tuple (ws.map PyData.str)
abbrev strsL (ws : List Str) : PyData := .list (ws.map PyData.str)
theorem dpT {a : Addr} {ws : List Str} (h : SqT K H a (ws.map V.str)) : Dp K H (.ref a) (strsT ws) := .tup h (dpa_strs ws)
theorem dpL {a : Addr} {ws : List Str} (h : SqL K H a (ws.map V.str)) : Dp K H (.ref a) (strsL ws) := .lst h (dpa_strs ws)
theorem dp_strsT {ws : List Str} (h : Dp K H v (strsT ws)) : ∃ a, v = .ref a ∧ SqT K H a (ws.map V.str) := by
  obtain ⟨a, xs, rfl, h1, h2⟩ := dp_tup h
  rw [strs_dpa h2] at h1
  exact ⟨a, rfl, h1⟩
theorem dp_strsL {ws : List Str} (h : Dp K H v (strsL ws)) : ∃ a, v = .ref a ∧ SqL K H a (ws.map V.str) := by
  obtain ⟨a, xs, rfl, h1, h2⟩ := dp_lst h
  rw [strs_dpa h2] at h1
  exact ⟨a, rfl, h1⟩
mutual
/-- data in which no list stands: what a list's change leaves -/
def noList : PyData → Bool
  | .tuple ds => noLists ds
  | .list _ => false
  | _ => true
def noLists : List PyData → Bool
  | [] => true
  | d :: ds => noList d && noLists ds
end
theorem sqT_mu {a p : Addr} {xs : List V} {H' : Hp} {ys : List V} (m : Mu p H H') (hp : H p = some (.lst ys)) (h : SqT K H a xs) : SqT K H' a xs := by
  rcases h with (h | ⟨o, h⟩) | h
  · exact .inl (.inl (m.at h (ne_of h hp (fun z => nomatch z))))
  · exact .inl (.inr ⟨o, m.at h (ne_of h hp (fun z => nomatch z))⟩)
  · exact .inr h
mutual
theorem dp_mu {H' : Hp} {p : Addr} {ys : List V} (m : Mu p H H') (hp : H p = some (.lst ys)) : ∀ {v : V} {d : PyData}, noList d = true → Dp K H v d → Dp K H' v d
  | _, _, _, .non => .non
  | _, _, _, .bl b => .bl b
  | _, _, _, .int i => .int i
  | _, _, _, .str x => .str x
  | _, _, n, .lst h ha => nomatch (show false = true from n)
  | _, _, n, .tup h ha => .tup (sqT_mu m hp h) (dpa_mu m hp n ha)
theorem dpa_mu {H' : Hp} {p : Addr} {ys : List V} (m : Mu p H H') (hp : H p = some (.lst ys)) : ∀ {vs : List V} {ds : List PyData}, noLists ds = true → DpAll K H vs ds → DpAll K H' vs ds
  | _, _, _, .nil => .nil
  | _, _, n, .cons h t => .cons (dp_mu m hp (Bool.and_eq_true_iff.mp n).1 h) (dpa_mu m hp (Bool.and_eq_true_iff.mp n).2 t)
end
theorem noLists_app : ∀ {ds es : List PyData}, noLists ds = true → noLists es = true → noLists (ds ++ es) = true
  | [], _, _, h => h
  | d :: ds, es, h, h2 => by
    obtain ⟨h3, h4⟩ := Bool.and_eq_true_iff.mp (show (noList d && noLists ds) = true from h)
    show (noList d && noLists (ds ++ es)) = true
    rw [h3, noLists_app h4 h2]
    rfl
theorem noLists_of : ∀ {ds : List PyData}, (∀ d ∈ ds, noList d = true) → noLists ds = true
  | [], _ => rfl
  | d :: ds, h => by
    show (noList d && noLists ds) = true
    rw [h d (List.mem_cons_self ..), noLists_of fun e he => h e (List.mem_cons_of_mem _ he)]
    rfl
/-- the book of some windows of n letters -/
abbrev bookD (n : Int) (ws : List Str) : PyData := .tuple [.int n, strsT ws]
theorem dp_book {n : Int} {ws : List Str} (h : Dp K H v (bookD n ws)) : ∃ a t, v = .ref a ∧ SqT K H a [.int n, .ref t] ∧ SqT K H t (ws.map V.str) := by
  obtain ⟨a, xs, rfl, h1, h2⟩ := dp_tup h
  cases h2 with
  | cons h3 h4 =>
    cases h4 with
    | cons h5 h6 =>
      cases h6
      obtain ⟨t, rfl, h7⟩ := dp_strsT h5
      rw [dp_int h3] at h1
      exact ⟨a, t, rfl, h1, h7⟩
theorem bookDp {n : Int} {ws : List Str} {a t : Addr} (h : SqT K H a [.int n, .ref t]) (h2 : SqT K H t (ws.map V.str)) : Dp K H (.ref a) (bookD n ws) := .tup h (.cons (.int n) (.cons (dpT h2) .nil))
theorem tyT {a : Addr} {xs : List V} (h : SqT K H a xs) : TyX K H (.ref a) (.type "tuple") := by
  rcases h with (h | ⟨o, h⟩) | ⟨o, its, n, h, hc, _⟩
  · exact .base (.tup h)
  · exact .fTuple h
  · exact .kTuple h hc
theorem tyL {a : Addr} {xs : List V} (h : SqL K H a xs) : TyX K H (.ref a) (.type "list") := by
  rcases h with (h | ⟨o, h⟩) | ⟨o, its, n, h, hc, _⟩
  · exact .base (.lst h)
  · exact .base (.frz h)
  · exact .kList h hc
end
/-- what may be reckoned as some data behind: te gives such a value, all that was tracked stands -/
def Gv (K : PySem.W.Frag) (te : TE) (σ : L2.St) (H : Hp) (d : PyData) : Prop := ∀ Q : VK, (∀ v H', Ex H H' → Dp K H' v d → Q v H') → te σ H Q
/-- promises: a value, some data, told; nothing else changed -/
def RetD (K : PySem.W.Frag) (d : PyData) (H : Hp) (Q : VK) : Prop := ∀ v H', Ex H H' → Dp K H' v d → Q v H'
theorem RetD.str {K : PySem.W.Frag} {x : Str} {H : Hp} {Q : VK} (k : RetD K (.str x) H Q) {H' : Hp} (e : Ex H H') : Q (.str x) H' := k _ _ e (.str x)
/-! ### what is walked -/
structure Src (J : It) (Hb : Hp) (n : Nat) (item : Nat → V → Hp → Prop) : Prop where
  go : ∀ i H2, Ex Hb H2 → i < n → J.go i H2
  stop : ∀ i H2, Ex Hb H2 → n ≤ i → J.stop i H2
  yld : ∀ i H2 x H3, Ex Hb H2 → i < n → J.yld i H2 x H3 → Ex H2 H3 ∧ item i x H3
theorem src_list {K : PySem.W.Frag} {Hb : Hp} {a : Addr} {xs : List V} (h : SqL K Hb a xs) : Src (Itl K a) Hb xs.length (fun i x _ => xs[i]? = some x) :=
  ⟨fun i H2 e hi => ⟨xs, xs[i], ex_l e h, List.getElem?_eq_getElem hi⟩, fun i H2 e hi => ⟨xs, ex_l e h, hi⟩, fun i H2 x H3 e _ y => by
    obtain ⟨rfl, y⟩ := y
    exact ⟨Ex.refl _, y xs (ex_l e h)⟩⟩
theorem src_tup {K : PySem.W.Frag} {Hb : Hp} {a : Addr} {xs : List V} (h : SqT K Hb a xs) : Src (Itt K a) Hb xs.length (fun i x _ => xs[i]? = some x) :=
  ⟨fun i H2 e hi => ⟨xs, xs[i], ex_t e h, List.getElem?_eq_getElem hi⟩, fun i H2 e hi => ⟨xs, ex_t e h, hi⟩, fun i H2 x H3 e _ y => by
    obtain ⟨rfl, y⟩ := y
    exact ⟨Ex.refl _, y xs (ex_t e h)⟩⟩
theorem src_rng {Hb : Hp} {lo : Int} {n : Nat} : Src (Itr lo n) Hb n (fun i x _ => x = .int (lo + (i : Int))) :=
  ⟨fun i H2 _ hi => hi, fun i H2 _ hi => hi, fun i H2 x H3 _ _ y => by
    obtain ⟨rfl, y⟩ := y
    exact ⟨Ex.refl _, y⟩⟩
theorem src_str {Hb : Hp} {x : Str} : Src (Its x) Hb x.cps.size (fun i v _ => ∃ c, x.cps[i]? = some c ∧ v = .str ⟨#[c]⟩) :=
  ⟨fun i H2 _ hi => hi, fun i H2 _ hi => hi, fun i H2 v H3 _ _ y => by
    obtain ⟨rfl, y⟩ := y
    exact ⟨Ex.refl _, y⟩⟩
/-- a for over such -/
theorem for_src {J : It} {Hb : Hp} {n : Nat} {item : Nat → V → Hp → Prop} {g : TG} {tb : TS} {D : Ends} {σ : L2.St} {H : Hp} (S : Src J Hb n item) (Pv : Nat → L2.St → Hp → Prop) (h0 : Pv 0 σ H) (hE : ∀ i σ H, Pv i σ H → Ex Hb H)
    (hs : ∀ i x σ H H2, i < n → Pv i σ H → Ex H H2 → item i x H2 → g x σ H2 fun σ2 H3 => tb { D with nx := Pv (i + 1), ct := Pv (i + 1), bk := D.nx } σ2 H3) (hd : ∀ σ H, Pv n σ H → D.nx σ H) :
    ∃ W : Nat → Nat → L2.St → Hp → Prop, (∃ m, W 0 m σ H) ∧ ∀ i m σ H, W i m σ H →
      (J.stop i H ∧ D.nx σ H) ∨ (J.go i H ∧ ∃ N : L2.St → Hp → Prop, (∀ σ' H', N σ' H' → ∃ m', m' < m ∧ W (i + 1) m' σ' H') ∧ ∀ x H', J.yld i H x H' → g x σ H' fun σ2 H2 => tb { D with nx := N, ct := N, bk := D.nx } σ2 H2) := by
  refine ⟨fun i m σ H => m = n - i ∧ i ≤ n ∧ Pv i σ H, ⟨n, by simp, Nat.zero_le _, h0⟩, ?_⟩
  rintro i m σ H ⟨rfl, hi, pv⟩
  have e := hE i σ H pv
  by_cases hlt : i < n
  · refine .inr ⟨S.go i H e hlt, Pv (i + 1), fun σ' H' p' => ⟨n - (i + 1), by omega, rfl, hlt, p'⟩, fun x H' y => ?_⟩
    obtain ⟨e2, it⟩ := S.yld i H x H' e hlt y
    exact hs i x σ H H' hlt pv e2 it
  · obtain rfl : i = n := by omega
    exact .inl ⟨S.stop i H e (Nat.le_refl _), hd σ H pv⟩
/-- a comprehension over such: which turns give, what they give -/
def givenD (n : Nat) (f : Nat → Bool) (F : Nat → PyData) : List PyData := ((List.range n).filter f).map F
theorem givenD_yes {n : Nat} {f : Nat → Bool} {F : Nat → PyData} (h : f n = true) : givenD (n + 1) f F = givenD n f F ++ [F n] := by
  unfold givenD
  rw [List.range_succ, List.filter_append, List.map_append, List.filter_cons, if_pos h]
  rfl
theorem givenD_no {n : Nat} {f : Nat → Bool} {F : Nat → PyData} (h : f n = false) : givenD (n + 1) f F = givenD n f F := by
  unfold givenD
  rw [List.range_succ, List.filter_append, List.map_append, List.filter_cons, if_neg (by rw [h]; decide)]
  exact List.append_nil _
theorem givenD_len (n : Nat) (f : Nat → Bool) (F : Nat → PyData) : (givenD n f F).length ≤ n := by
  unfold givenD
  rw [List.length_map]
  have h := List.length_filter_le f (List.range n)
  rwa [List.length_range] at h
theorem lc_src {K : PySem.W.Frag} {J : It} {H1 : Hp} {n : Nat} {item : Nat → V → Hp → Prop} {g : TG} {tt : TT} {te : TE} {vs : List Nat} {σ : L2.St} {D : Addr} {Qd : Hp → Prop} (S : Src J H1 n item) (hn : n ≤ 1000000) (f : Nat → Bool) (F : Nat → PyData) (nl : ∀ i, i < n → noList (F i) = true) (np : H1 D = none)
    (hs : ∀ (i : Nat) (x : V) (H2 : Hp) (Y : VK) (Z : Hp → Prop), i < n → Ex H1 H2 → item i x H2 → (f i = true → ∀ y H3, Ex H2 H3 → Dp K H3 y (F i) → Y y H3) → (f i = false → ∀ H3, Ex H2 H3 → Z H3) →
      g x (wipe σ vs) H2 fun σ2 H3 => wipe σ2 vs = wipe σ vs ∧ tt σ2 H3 fun b H4 => if b = true then te σ2 H4 Y else Z H4)
    (hd : ∀ H' acc, Ex H1 H' → H' D = some (.lst acc) → DpAll K H' acc (givenD n f F) → Qd H') :
    ∃ W : Nat → Nat → Hp → Prop, (∃ m, W 0 m (upd H1 D (.lst []))) ∧ ∀ i m H, W i m H →
      (J.stop i H ∧ Qd H) ∨ (J.go i H ∧ ∃ Nx : Hp → Prop, (∀ H', Nx H' → ∃ m', m' < m ∧ W (i + 1) m' H') ∧ ∀ x H', J.yld i H x H' → g x (wipe σ vs) H' fun σ2 H2 => wipe σ2 vs = wipe σ vs ∧ tt σ2 H2 fun b H3 =>
        if b = true then te σ2 H3 fun y H4 => ∃ acc, H4 D = some (.lst acc) ∧ acc.length < sizeLine ∧ Nx (upd H4 D (.lst (acc ++ [y]))) else Nx H3) := by
  have big : 1000000 < sizeLine := by decide
  -- behind i turns
  let Pv : Nat → Hp → Prop := fun i H => Ex H1 H ∧ ∃ acc, H D = some (.lst acc) ∧ DpAll K H acc (givenD i f F)
  refine ⟨fun i m H => m = n - i ∧ i ≤ n ∧ Pv i H, ⟨n, by simp, Nat.zero_le _, Ex.new np, [], upd_same, .nil⟩, ?_⟩
  rintro i m H ⟨rfl, hi, e, acc, hD, ha⟩
  by_cases hlt : i < n
  · refine .inr ⟨S.go i H e hlt, Pv (i + 1), fun H' p' => ⟨n - (i + 1), by omega, rfl, hlt, p'⟩, fun x H' y => ?_⟩
    obtain ⟨e2, it⟩ := S.yld i H x H' e hlt y
    refine hs i x H' _ _ hlt (e.trans e2) it (fun hf z H6 e6 hz => ?_) (fun hf H5 e5 => ?_)
    · have e46 : Ex H H6 := e2.trans e6
      have h6 : H6 D = some (.lst acc) := e46 _ _ hD
      have m6 : Mu D H6 (upd H6 D (.lst (acc ++ [z]))) := fun q hq => upd_ne hq
      refine ⟨acc, h6, ?_, Ex.mut (e.trans e46) np, acc ++ [z], upd_same, ?_⟩
      · have l1 := dpa_len ha
        have l2 := givenD_len i f F
        omega
      · rw [givenD_yes hf]
        have nl0 : noLists (givenD i f F) = true := noLists_of fun d hd => by
          obtain ⟨j, hj, rfl⟩ := List.mem_map.mp hd
          have hj2 := List.mem_range.mp (List.mem_filter.mp hj).1
          exact nl j (by omega)
        exact dpa_app (dpa_mu m6 h6 nl0 (dpa_ex e46 ha)) (dpa_one (dp_mu m6 h6 (nl i hlt) hz))
    · refine ⟨e.trans (e2.trans e5), acc, e5 _ _ (e2 _ _ hD), ?_⟩
      rw [givenD_no hf]
      exact dpa_ex (e2.trans e5) ha
  · obtain rfl : i = n := by omega
    exact .inl ⟨S.stop i H e (Nat.le_refl _), hd H acc e hD ha⟩
/-! the same by what is walked -/
section
variable {K : PySem.W.Frag} {H1 : Hp} {g : TG} {tt : TT} {te : TE} {vs : List Nat} {σ : L2.St} {D : Addr} {Qd : Hp → Prop}
abbrev LcTurn (K : PySem.W.Frag) (H1 : Hp) (n : Nat) (item : Nat → V → Hp → Prop) (g : TG) (tt : TT) (te : TE) (vs : List Nat) (σ : L2.St) (f : Nat → Bool) (F : Nat → PyData) : Prop :=
  ∀ (i : Nat) (x : V) (H2 : Hp) (Y : VK) (Z : Hp → Prop), i < n → Ex H1 H2 → item i x H2 → (f i = true → ∀ y H3, Ex H2 H3 → Dp K H3 y (F i) → Y y H3) → (f i = false → ∀ H3, Ex H2 H3 → Z H3) →
    g x (wipe σ vs) H2 fun σ2 H3 => wipe σ2 vs = wipe σ vs ∧ tt σ2 H3 fun b H4 => if b = true then te σ2 H4 Y else Z H4
abbrev LcEnd (K : PySem.W.Frag) (H1 : Hp) (n : Nat) (f : Nat → Bool) (F : Nat → PyData) (D : Addr) (Qd : Hp → Prop) : Prop :=
  ∀ H' acc, Ex H1 H' → H' D = some (.lst acc) → DpAll K H' acc (givenD n f F) → Qd H'
/-- what a comprehension's reading asks, J what is walked -/
abbrev LcGo (J : It) (H1 : Hp) (g : TG) (tt : TT) (te : TE) (vs : List Nat) (σ : L2.St) (D : Addr) (Qd : Hp → Prop) : Prop :=
  ∃ W : Nat → Nat → Hp → Prop, (∃ m, W 0 m (upd H1 D (.lst []))) ∧ ∀ i m H, W i m H →
      (J.stop i H ∧ Qd H) ∨ (J.go i H ∧ ∃ Nx : Hp → Prop, (∀ H', Nx H' → ∃ m', m' < m ∧ W (i + 1) m' H') ∧ ∀ x H', J.yld i H x H' → g x (wipe σ vs) H' fun σ2 H2 => wipe σ2 vs = wipe σ vs ∧ tt σ2 H2 fun b H3 =>
        if b = true then te σ2 H3 fun y H4 => ∃ acc, H4 D = some (.lst acc) ∧ acc.length < sizeLine ∧ Nx (upd H4 D (.lst (acc ++ [y]))) else Nx H3)
theorem lc_rng (K : PySem.W.Frag) {lo : Int} {n : Nat} (f : Nat → Bool) (F : Nat → PyData) (np : H1 D = none) (hn : n ≤ 1000000) (nl : ∀ i, i < n → noList (F i) = true) (hs : LcTurn K H1 n (fun i x _ => x = .int (lo + (i : Int))) g tt te vs σ f F) (hd : LcEnd K H1 n f F D Qd) : LcGo (Itr lo n) H1 g tt te vs σ D Qd := lc_src src_rng hn f F nl np hs hd
theorem lc_lst {a : Addr} {xs : List V} (h : SqL K H1 a xs) (f : Nat → Bool) (F : Nat → PyData) (np : H1 D = none) (hn : xs.length ≤ 1000000) (nl : ∀ i, i < xs.length → noList (F i) = true) (hs : LcTurn K H1 xs.length (fun i x _ => xs[i]? = some x) g tt te vs σ f F) (hd : LcEnd K H1 xs.length f F D Qd) : LcGo (Itl K a) H1 g tt te vs σ D Qd := lc_src (src_list h) hn f F nl np hs hd
theorem lc_tp {a : Addr} {xs : List V} (h : SqT K H1 a xs) (f : Nat → Bool) (F : Nat → PyData) (np : H1 D = none) (hn : xs.length ≤ 1000000) (nl : ∀ i, i < xs.length → noList (F i) = true) (hs : LcTurn K H1 xs.length (fun i x _ => xs[i]? = some x) g tt te vs σ f F) (hd : LcEnd K H1 xs.length f F D Qd) : LcGo (Itt K a) H1 g tt te vs σ D Qd := lc_src (src_tup h) hn f F nl np hs hd
theorem lc_st (K : PySem.W.Frag) {z : Str} (f : Nat → Bool) (F : Nat → PyData) (np : H1 D = none) (hn : z.cps.size ≤ 1000000) (nl : ∀ i, i < z.cps.size → noList (F i) = true) (hs : LcTurn K H1 z.cps.size (fun i v _ => ∃ c, z.cps[i]? = some c ∧ v = .str ⟨#[c]⟩) g tt te vs σ f F) (hd : LcEnd K H1 z.cps.size f F D Qd) : LcGo (Its z) H1 g tt te vs σ D Qd := lc_src src_str hn f F nl np hs hd
/-- a comprehension over a list or a tuple -/
theorem lc_sq {a : Addr} {xs : List V} {Qd : Addr → Hp → Prop} (h : Sq K H1 a xs) (f : Nat → Bool) (F : Nat → PyData) (hn : xs.length ≤ 1000000) (nl : ∀ i, i < xs.length → noList (F i) = true) (hs : LcTurn K H1 xs.length (fun i x _ => xs[i]? = some x) g tt te vs σ f F)
    (hd : ∀ D, H1 D = none → LcEnd K H1 xs.length f F D (Qd D)) :
    ((∃ xs, SqL K H1 a xs) ∧ ∀ D, H1 D = none → LcGo (Itl K a) H1 g tt te vs σ D (Qd D)) ∨ ((∃ xs, SqT K H1 a xs) ∧ ∀ D, H1 D = none → LcGo (Itt K a) H1 g tt te vs σ D (Qd D)) :=
  h.elim (fun q => .inl ⟨⟨_, q⟩, fun D np => lc_lst q f F np hn nl hs (hd D np)⟩) fun q => .inr ⟨⟨_, q⟩, fun D np => lc_tp q f F np hn nl hs (hd D np)⟩
/-- no test -/
theorem lc_yes {Y : VK} {Z : Hp → Prop} {H : Hp} (h : te σ H Y) : tYes σ H (fun b H4 => if b = true then te σ H4 Y else Z H4) := by
  show (if true = true then te σ H Y else Z H)
  exact iteT h
/-! for loops -/
abbrev FoGo (J : It) (g : TG) (tb : TS) (D : Ends) (σ : L2.St) (H : Hp) : Prop := ∃ W : Nat → Nat → L2.St → Hp → Prop, (∃ m, W 0 m σ H) ∧ ∀ i m σ H, W i m σ H →
      (J.stop i H ∧ D.nx σ H) ∨ (J.go i H ∧ ∃ N : L2.St → Hp → Prop, (∀ σ' H', N σ' H' → ∃ m', m' < m ∧ W (i + 1) m' σ' H') ∧ ∀ x H', J.yld i H x H' → g x σ H' fun σ2 H2 => tb { D with nx := N, ct := N, bk := D.nx } σ2 H2)
abbrev FoTurn (n : Nat) (item : Nat → V → Hp → Prop) (g : TG) (tb : TS) (D : Ends) (Pv : Nat → L2.St → Hp → Prop) : Prop :=
  ∀ i x σ H H2, i < n → Pv i σ H → Ex H H2 → item i x H2 → g x σ H2 fun σ2 H3 => tb { D with nx := Pv (i + 1), ct := Pv (i + 1), bk := D.nx } σ2 H3
variable {tb : TS} {Dn : Ends} {H Hb : Hp}
theorem fo_rng {lo : Int} {n : Nat} (Pv : Nat → L2.St → Hp → Prop) (h0 : Pv 0 σ H) (hs : ∀ i σ H, i < n → Pv i σ H → g (.int (lo + (i : Int))) σ H fun σ2 H3 => tb { Dn with nx := Pv (i + 1), ct := Pv (i + 1), bk := Dn.nx } σ2 H3) (hd : ∀ σ H, Pv n σ H → Dn.nx σ H) : FoGo (Itr lo n) g tb Dn σ H :=
  for_range Pv h0 hs hd
theorem fo_lst {a : Addr} {xs : List V} (h : SqL K Hb a xs) (Pv : Nat → L2.St → Hp → Prop) (h0 : Pv 0 σ H) (hE : ∀ i σ H, Pv i σ H → Ex Hb H) (hs : ∀ i x σ H, xs[i]? = some x → Pv i σ H → g x σ H fun σ2 H3 => tb { Dn with nx := Pv (i + 1), ct := Pv (i + 1), bk := Dn.nx } σ2 H3) (hd : ∀ σ H, Pv xs.length σ H → Dn.nx σ H) :
    (∃ ys, SqL K H a ys) ∧ FoGo (Itl K a) g tb Dn σ H := ⟨⟨_, ex_l (hE _ _ _ h0) h⟩, for_list Pv h0 (fun i σ H _ p => ex_l (hE i σ H p) h) hs hd⟩
theorem fo_tp {a : Addr} {xs : List V} (h : SqT K Hb a xs) (Pv : Nat → L2.St → Hp → Prop) (h0 : Pv 0 σ H) (hE : ∀ i σ H, Pv i σ H → Ex Hb H) (hs : ∀ i x σ H, xs[i]? = some x → Pv i σ H → g x σ H fun σ2 H3 => tb { Dn with nx := Pv (i + 1), ct := Pv (i + 1), bk := Dn.nx } σ2 H3) (hd : ∀ σ H, Pv xs.length σ H → Dn.nx σ H) :
    (∃ ys, SqT K H a ys) ∧ FoGo (Itt K a) g tb Dn σ H := ⟨⟨_, ex_t (hE _ _ _ h0) h⟩, for_tup Pv h0 (fun i σ H _ p => ex_t (hE i σ H p) h) hs hd⟩
theorem fo_sq {a : Addr} {xs : List V} (h : Sq K Hb a xs) (Pv : Nat → L2.St → Hp → Prop) (h0 : Pv 0 σ H) (hE : ∀ i σ H, Pv i σ H → Ex Hb H) (hs : ∀ i x σ H, xs[i]? = some x → Pv i σ H → g x σ H fun σ2 H3 => tb { Dn with nx := Pv (i + 1), ct := Pv (i + 1), bk := Dn.nx } σ2 H3) (hd : ∀ σ H, Pv xs.length σ H → Dn.nx σ H) :
    ((∃ ys, SqL K H a ys) ∧ FoGo (Itl K a) g tb Dn σ H) ∨ ((∃ ys, SqT K H a ys) ∧ FoGo (Itt K a) g tb Dn σ H) :=
  h.elim (fun q => .inl (fo_lst q Pv h0 hE hs hd)) fun q => .inr (fo_tp q Pv h0 hE hs hd)
end
/-! ### repr of data -/
structure Shw (d : PyData) : Prop where
  sh : d.showable = true
  nd : d.hasDict = false
  dp : d.depth ≤ 60
  sz : d.shown.length ≤ sizeLine
theorem cr_repr {X : Cx} (hgd : X.A.guards = some []) (hu : X.A.units + 64 < cLine) : CallR X (.builtin "repr") (fun xs H Q => ∃ v d, xs = [v] ∧ Dp X.K H v d ∧ Shw d ∧ Q (.str d.shown) H) := by
  intro pins st σ H xs us Q I r h
  obtain ⟨v, d, rfl, hd, hs, q⟩ := h
  obtain ⟨u, rfl, ru⟩ := vals1 r
  have big : ∀ a, u = .ref a → wpAny (model X.prog X.w) X.A (call (.builtin "repr") [u]) (EP X pins σ Q) X.xe st := by
    rintro a rfl
    obtain ⟨as, rd⟩ := Dp.reads I d v _ hd ru
    have hh := hs.nd
    refine repr_of_reads' rd hs.sh (fun z => by rw [hh] at z; cases z) hgd (by have := hs.dp; omega) (fun _ _ e => e) (fun h' t tk hk => ?_) hs.sz
    exact ⟨.str d.shown, H, I.kept (t' := tk) hk, ⟨_, rfl⟩, q⟩
  cases hd with
  | non => cases ru; exact P.repr_of_none ⟨.str _, H, I.tok _, ⟨_, rfl⟩, q⟩
  | bl b => cases ru; exact P.repr_of_bool ⟨.str _, H, I.tok _, ⟨_, rfl⟩, q⟩
  | int i =>
    obtain ⟨t, rfl⟩ := ru
    exact P.repr_of_int (of_decide_eq_true hs.sh) ⟨.str _, H, I.tok _, ⟨_, rfl⟩, q⟩
  | str x =>
    obtain ⟨t, rfl⟩ := ru
    exact P.repr_of_str ⟨.str _, H, I.tok _, ⟨_, rfl⟩, q⟩ hs.sz
  | lst _ _ => exact big _ ru
  | tup _ _ => exact big _ ru
/-! ### how long data is when it is shown -/
mutual
/-- texts of signs below 16 ^ 8, ints of at most 1900 bits, no dict; and a bound of what is shown -/
def tame : PyData → Bool
  | .none => true
  | .bool _ => true
  | .int i => decide (i.natAbs < 2 ^ 200)
  | .str x => x.cps.toList.all (fun c => decide (c < 128))
  | .list ds => tames ds
  | .tuple ds => tames ds
  | .dict _ => false
def tames : List PyData → Bool
  | [] => true
  | d :: ds => tame d && tames ds
end
mutual
def wide : PyData → Nat
  | .none => 4
  | .bool _ => 5
  | .int _ => 300
  | .str x => 10 * x.length + 2
  | .list ds => wides ds + 4
  | .tuple ds => wides ds + 4
  | .dict _ => 0
def wides : List PyData → Nat
  | [] => 0
  | d :: ds => wide d + 2 + wides ds
end
theorem textFrom_le : ∀ (ts : List Str) (k : Nat) (acc : Str), (textFrom k acc ts).length ≤ acc.length + (ts.map fun t => t.length + 2).sum
  | [], k, acc => Nat.le_refl _
  | t :: ts, k, acc => by
    have ih := textFrom_le ts (k + 1) (acc ++ (if k > 0 then ", " else "" : String) ++ t)
    have e1 : (acc ++ ((if k > 0 then ", " else "" : String) : Str) ++ t).length = acc.length + ((if k > 0 then ", " else "" : String) : Str).length + t.length := by
      show (acc.cps ++ _ ++ t.cps).size = _
      rw [Array.size_append, Array.size_append]
      rfl
    have e2 : ((if k > 0 then ", " else "" : String) : Str).length ≤ 2 := by split <;> decide
    show (textFrom (k + 1) _ ts).length ≤ _
    rw [List.map_cons, List.sum_cons]
    omega
theorem strLen_app (a b : Str) : (a ++ b).length = a.length + b.length := by
  show (a.cps ++ b.cps).size = _
  rw [Array.size_append]
  rfl
theorem join_le : ∀ (ts : List Str), (Str.join ", " ts).length ≤ (ts.map fun t => t.length + 2).sum
  | [] => Nat.le_refl _
  | [x] => by show x.length ≤ x.length + 2 + 0; omega
  | x :: y :: r => by
    have ih := join_le (y :: r)
    show (x ++ ", " ++ Str.join ", " (y :: r)).length ≤ _
    rw [strLen_app, strLen_app, List.map_cons, List.sum_cons]
    have e : (((", " : String)) : Str).length = 2 := by decide
    omega
theorem int_shown (i : Int) (h : i.natAbs < 2 ^ 200) : ((toString i : String) : Str).length ≤ 300 := by
  have hl : i.natAbs.log2 < 200 := by
    by_cases h0 : i.natAbs = 0
    · rw [h0]; decide
    · exact (Nat.log2_lt h0).mpr h
  have z := int_text_length_le (a := i) (k := 200) (by decide) hl
  rw [PySem.ofString_length]
  omega
mutual
theorem tame_show : ∀ (d : PyData), tame d = true → d.showable = true ∧ d.hasDict = false ∧ d.shown.length ≤ wide d
  | .none, _ => ⟨rfl, rfl, by show ((("None" : String)) : Str).length ≤ 4; decide⟩
  | .bool b, _ => ⟨rfl, rfl, by cases b <;> decide⟩
  | .int i, h => by
    have hi : i.natAbs < 2 ^ 200 := of_decide_eq_true h
    refine ⟨decide_eq_true ?_, rfl, int_shown i hi⟩
    by_cases h0 : i.natAbs = 0
    · rw [h0]; decide
    · have := (Nat.log2_lt h0).mpr hi
      omega
  | .str x, h => by
    refine ⟨rfl, rfl, StrLaws.reprText_len x fun c hc => ?_⟩
    have := of_decide_eq_true (List.all_eq_true.mp (show x.cps.toList.all (fun c => decide (c < 128)) = true from h) c hc)
    omega
  | .list ds, h => by
    obtain ⟨h1, h2, h3⟩ := tames_show ds h
    refine ⟨h1, h2, ?_⟩
    show (listText (PyData.shownAll ds)).length ≤ wides ds + 4
    unfold listText
    have z := textFrom_le (PyData.shownAll ds) 0 "["
    have e1 : (((("[" : String)) : Str)).length = 1 := by decide
    have e2 : (((("]" : String)) : Str)).length = 1 := by decide
    rw [strLen_app]
    omega
  | .tuple ds, h => by
    obtain ⟨h1, h2, h3⟩ := tames_show ds h
    refine ⟨h1, h2, ?_⟩
    show (tupleText (PyData.shownAll ds)).length ≤ wides ds + 4
    unfold tupleText
    have z := join_le (PyData.shownAll ds)
    have e1 : (((("(" : String)) : Str)).length = 1 := by decide
    have e2 : ((((if (PyData.shownAll ds).length == 1 then ",)" else ")" : String)) : Str)).length ≤ 2 := by split <;> decide
    rw [strLen_app, strLen_app]
    omega
  | .dict _, h => nomatch (show false = true from h)
theorem tames_show : ∀ (ds : List PyData), tames ds = true → PyData.showableAll ds = true ∧ PyData.hasDictAll ds = false ∧ ((PyData.shownAll ds).map fun t => t.length + 2).sum ≤ wides ds
  | [], _ => ⟨rfl, rfl, Nat.le_refl _⟩
  | d :: ds, h => by
    obtain ⟨a, b⟩ := Bool.and_eq_true_iff.mp (show (tame d && tames ds) = true from h)
    obtain ⟨a1, a2, a3⟩ := tame_show d a
    obtain ⟨b1, b2, b3⟩ := tames_show ds b
    refine ⟨?_, ?_, ?_⟩
    · show (d.showable && PyData.showableAll ds) = true
      rw [a1, b1]
      rfl
    · show (d.hasDict || PyData.hasDictAll ds) = false
      rw [a2, b2]
      rfl
    · show (((d.shown :: PyData.shownAll ds).map fun t => t.length + 2)).sum ≤ wide d + 2 + wides ds
      rw [List.map_cons, List.sum_cons]
      omega
end
theorem shw_of {d : PyData} (h : tame d = true) (hd : d.depth ≤ 60) (hw : wide d ≤ sizeLine) : Shw d := by
  obtain ⟨h1, h2, h3⟩ := tame_show d h
  exact ⟨h1, h2, hd, Nat.le_trans h3 hw⟩
end My

/-! texts as lists of signs; words, windows, places -/
namespace My
open PySem PySem.Spec PyProof.Rows L2 Evl
/-! ### texts -/
def tx (l : List Nat) : Str := ⟨l.toArray⟩
def sg (x : Str) : List Nat := x.cps.toList
theorem sg_tx (l : List Nat) : sg (tx l) = l := rfl
theorem tx_sg (x : Str) : tx (sg x) = x := by
  cases x
  rfl
theorem sg_inj {x y : Str} (h : sg x = sg y) : x = y := by rw [← tx_sg x, h, tx_sg]
theorem len_sg (x : Str) : x.length = (sg x).length := rfl
theorem sg_app (x y : Str) : sg (x ++ y) = sg x ++ sg y := by
  show (x.cps ++ y.cps).toList = _
  rw [Array.toList_append]
  rfl
/-- small letters -/
def Word (x : Str) : Prop := ∀ c ∈ sg x, 97 ≤ c ∧ c ≤ 122
def lt (x y : Str) : Prop := sg x < sg y
instance (x y : Str) : Decidable (lt x y) := inferInstanceAs (Decidable (sg x < sg y))
def begS (x : Str) : Str := tx (sg x).dropLast
def endS (x : Str) : Str := tx ((sg x).drop 1)
theorem cut_beg (x : Str) : cutS x none (some (-1)) = begS x := by
  unfold cutS begS tx sg
  have e1 : HT.sIx x.length 0 none = 0 := rfl
  have e2 : HT.sIx x.length x.length (some (-1)) = x.length - 1 := by
    show (if (-1 : Int) < 0 then ((-1 : Int) + (x.length : Int)).toNat else min (-1 : Int).toNat x.length) = _
    rw [if_pos (by decide)]
    omega
  rw [e1, e2, List.drop_zero, Nat.sub_zero, List.dropLast_eq_take]
  rfl
theorem cut_end (x : Str) : cutS x (some 1) none = endS x := by
  unfold cutS endS tx sg
  have e1 : HT.sIx x.length 0 (some 1) = min 1 x.length := rfl
  have e2 : HT.sIx x.length x.length none = x.length := rfl
  rw [e1, e2]
  congr 1
  have hl : x.cps.toList.length = x.length := rfl
  by_cases h : 1 ≤ x.length
  · rw [Nat.min_eq_left h, List.take_of_length_le]
    rw [List.length_drop]
    omega
  · have h0 : x.length = 0 := by omega
    rw [h0] at hl
    rw [List.length_eq_zero_iff.mp hl, h0]
    rfl
theorem cut_at (x : Str) (a b : Nat) (hb : b ≤ x.length) : cutS x (some (a : Int)) (some (b : Int)) = tx (((sg x).drop (min a x.length)).take (b - min a x.length)) := by
  unfold cutS tx sg
  have e1 : HT.sIx x.length 0 (some (a : Int)) = min a x.length := HT.sIx_nat _ _ _
  have e2 : HT.sIx x.length x.length (some (b : Int)) = min b x.length := HT.sIx_nat _ _ _
  rw [e1, e2, Nat.min_eq_left hb]
/-- ascending, no two alike -/
def Asc (ws : List Str) : Prop := ws.Pairwise lt
/-- windows of n letters -/
def Win (n : Nat) (ws : List Str) : Prop := (∀ x ∈ ws, Word x ∧ x.length = n) ∧ Asc ws
structure Bk (n : Nat) (ws : List Str) : Prop where
  lo : 2 ≤ n
  hi : n ≤ 6
  win : Win n ws
  ne : ws ≠ []
  few : ws.length ≤ 80
theorem atI_of {α : Type} {xs : List α} {i : Int} {j : Nat} {v : α} (h : i = (j : Int)) (hx : xs[j]? = some v) : atI xs i = some v := by
  subst h
  exact atI_nat hx
theorem get_map {α β : Type} {f : α → β} {xs : List α} {j : Nat} (h : j < xs.length) : (xs.map f)[j]? = some (f xs[j]) := by
  rw [List.getElem?_map, List.getElem?_eq_getElem h]
  rfl
theorem str_at {ws : List Str} {i : Nat} {x : V} (h : (ws.map V.str)[i]? = some x) : ∃ z, ws[i]? = some z ∧ x = .str z := by
  rw [List.getElem?_map] at h
  cases e : ws[i]? with
  | none => rw [e] at h; cases h
  | some z => rw [e] at h; exact ⟨z, rfl, (Option.some.inj h).symm⟩
theorem givenD_all {n : Nat} {F : Nat → PyData} : givenD n (fun _ => true) F = (List.range n).map F := by
  unfold givenD
  rw [List.filter_eq_self.mpr (fun _ _ => rfl)]
theorem sz_of {n : Nat} (h : n ≤ 1000000) : n ≤ sizeLine := Nat.le_trans h (by decide)
theorem sz_lt {n : Nat} (h : n ≤ 1000000) : n < sizeLine := Nat.lt_of_le_of_lt h (by decide)
theorem word_in (c : Nat) : decide (c ∈ sg ("abcdefghijklmnopqrstuvwxyz" : Str)) = decide (97 ≤ c ∧ c ≤ 122) := by
  have e : sg ("abcdefghijklmnopqrstuvwxyz" : Str) = (List.range 26).map (· + 97) := by decide +kernel
  rw [e]
  by_cases h : 97 ≤ c ∧ c ≤ 122
  · rw [decide_eq_true h]
    exact decide_eq_true (List.mem_map.mpr ⟨c - 97, List.mem_range.mpr (by omega), by omega⟩)
  · rw [decide_eq_false h]
    exact decide_eq_false fun z => h (by
      obtain ⟨a, ha, rfl⟩ := List.mem_map.mp z
      have := List.mem_range.mp ha
      omega)
end My

/-! the layer's rules with the written part told by name (a comprehension's block has it by its own) -/
namespace My
open PySem PySem.Spec PyProof.Rows L2 Evl
section
variable {X : Cx} {K : PySem.W.Frag} {t : TA} {tl te to : TE} {o e e2 a : Expr} {es : List Expr} {tg : Expr} {p pos apos cpos tpos : Pos}
theorem ix_tupK (h : X.K = K := by rfl) : IxR X (rIxT K) := by subst h; exact ix_tup
theorem ix_listK (h : X.K = K := by rfl) : IxR X (rIxL K) := by subst h; exact ix_list
theorem ix_seqK (h : X.K = K := by rfl) : IxR X (rIx K) := by subst h; exact ix_seq
theorem op_inK (h : X.K = K := by rfl) : OpR X (compareOp .In) (rIn K false) := by subst h; exact op_in_seq
theorem op_notInK (h : X.K = K := by rfl) : OpR X (compareOp .NotIn) (rIn K true) := by subst h; exact op_notIn_seq
theorem op_eqDK (hu : X.A.units + 64 < cLine) (h : X.K = K := by rfl) : OpR X (compareOp .Eq) (rEqD K) := by subst h; exact op_eqD hu
theorem op_neDK (hu : X.A.units + 64 < cLine) (h : X.K = K := by rfl) : OpR X (compareOp .NotEq) (rNeD K) := by subst h; exact op_neD hu
theorem op_catAK (h : X.K = K := by rfl) : OpR X (binaryOp .Add) (rCatA K) := by subst h; exact op_catA
theorem sl_listK (h : X.K = K := by rfl) : SlR X (rSlL K) := by subst h; exact sl_list
theorem sl_tupK (h : X.K = K := by rfl) : SlR X (rSlA K) := by subst h; exact sl_tupA
def rLenQ (K : PySem.W.Frag) : List V → Hp → VK → Prop := fun xs H Q => ∃ a ys, xs = [.ref a] ∧ Sq K H a ys ∧ Q (.int ys.length) H
theorem call_lenK (h : X.K = K := by rfl) : CallR X (.builtin "len") (rLenQ K) := by subst h; exact call_len_seq
def rLenA (K : PySem.W.Frag) : List V → Hp → VK → Prop := fun xs H Q => ∃ x n, xs = [x] ∧ LenV K x H n ∧ Q (.int n) H
theorem call_lenAK (h : X.K = K := by rfl) : CallR X (.builtin "len") (rLenA K) := by subst h; exact call_len
theorem cr_allK (hc : X.calm = true) (h : X.K = K := by rfl) : CallR X (.builtin "all") (rAll K) := by subst h; exact cr_all hc
theorem cr_anyK (hc : X.calm = true) (h : X.K = K := by rfl) : CallR X (.builtin "any") (rAny K) := by subst h; exact cr_any hc
theorem cr_sumK (hc : X.calm = true) (h : X.K = K := by rfl) : CallR X (.builtin "sum") (rSum K) := by subst h; exact cr_sum hc
theorem cr_maxK (hc : X.calm = true) (h : X.K = K := by rfl) : CallR X (.builtin "max") (rMax K) := by subst h; exact cr_max hc
theorem cr_minK (hc : X.calm = true) (h : X.K = K := by rfl) : CallR X (.builtin "min") (rMin K) := by subst h; exact cr_min hc
theorem cr_sortedSK (h : X.K = K := by rfl) : CallR X (.builtin "sorted") (rSortedS K) := by subst h; exact cr_sortedS
theorem call_isiK2 (h : X.K = K := by rfl) : CallR X (.builtin "isinstance") (rIsi K) := by subst h; exact call_isi
def rListQ (K : PySem.W.Frag) : List V → Hp → VK → Prop := fun xs H Q => ∃ a ys, xs = [.ref a] ∧ Sq K H a ys ∧ ∀ l, H l = none → Q (.ref l) (upd H l (.lst ys))
theorem call_listK (h : X.K = K := by rfl) : CallR X (.type "list") (rListQ K) := by subst h; exact call_list_of
def rTupQ (K : PySem.W.Frag) : List V → Hp → VK → Prop := fun xs H Q => ∃ a ys, xs = [.ref a] ∧ ((SqL K H a ys ∧ ∀ l, H l = none → Q (.ref l) (upd H l (.tup ys))) ∨ (SqT K H a ys ∧ Q (.ref a) H))
theorem call_tupleK (h : X.K = K := by rfl) : CallR X (.type "tuple") (rTupQ K) := by subst h; exact call_tuple_of
def rRepr (K : PySem.W.Frag) : List V → Hp → VK → Prop := fun xs H Q => ∃ v d, xs = [v] ∧ Dp K H v d ∧ Shw d ∧ Q (.str d.shown) H
theorem cr_reprK (hgd : X.A.guards = some []) (hu : X.A.units + 64 < cLine) (h : X.K = K := by rfl) : CallR X (.builtin "repr") (rRepr K) := by subst h; exact cr_repr hgd hu
theorem pi_listK (h : PE X a tl) (e : X.K = K := by rfl) : PI X tg a (iList K tl) := by subst e; exact pi_list h
theorem pi_tupK (h : PE X a tl) (e : X.K = K := by rfl) : PI X tg a (iTup K tl) := by subst e; exact pi_tup h
theorem pi_seqK (h : PE X a tl) (e : X.K = K := by rfl) : PI X tg a (iSeq K tl) := by subst e; exact pi_seq h
theorem pi_enumK {elts : List Expr} {kk : Nat} (hm : X.mg "enumerate" = none) (ha : PA X [e] t) (h : X.K = K := by rfl) (hg : Gl X "enumerate" := by rfl) (hs : starEach [e] X.env = [(false, eval e X.env)] := by rfl) :
    PI X (.Tuple elts kk tpos) (.Call (.Name "enumerate" p) [e] [] pos) (iEnum K t) := by subst h; exact pi_enum hg hm ha hs
theorem pi_zipK {elts : List Expr} {kk : Nat} (hm : X.mg "zip" = none) (ha : PA X [e, e2] t) (h : X.K = K := by rfl) (hg : Gl X "zip" := by rfl) (hs : starEach [e, e2] X.env = (false, eval e X.env) :: starEach [e2] X.env := by rfl) (hpl : (backTo pos (starEach [e2] X.env)).any (·.1) = false := by rfl) :
    PI X (.Tuple elts kk tpos) (.Call (.Name "zip" p) [e, e2] [] pos) (iZip K t) := by subst h; exact pi_zip hg hm ha hs hpl
def rJoin (K : PySem.W.Frag) : V → List V → Hp → VK → Prop := fun x xs H Q => ∃ z a, ∃ ys : List Str, x = .str z ∧ xs = [.ref a] ∧ Sq K H a (ys.map V.str) ∧ (ys.map (·.length)).sum + ys.length * z.length ≤ 16777216 ∧ Q (.str (Txt.join z ys)) H
theorem pe_joinK (ho : PE X o to) (he : PE X e te) (h : X.K = K := by rfl) (hs : starEach [e] X.env = [(false, eval e X.env)] := by rfl) (hbase : attributeBase o "join" X.env (eval o X.env) = eval o X.env := by rfl) (hline : (apos.endLine == pos.line) = true := by rfl) :
    PE X (.Call (.Attribute o "join" apos) [e] [] pos) (tM1 (rJoin K) to te) := by subst h; exact pe_join ho he hs hbase hline
theorem pe_bmK {T id : String} {name : Str} {r : V → List V → Hp → VK → Prop} (pa : PlainAttrs T) (slot : Slot T name id) (hty : typeOf (.builtin id) = pure (.type "method_descriptor")) (hm : MtR X id r) (ho : PE X o to) (ha : PA X (e :: es) t) (h : X.K = K := by rfl)
    (hbase : attributeBase o name X.env (eval o X.env) = eval o X.env := by rfl)
    (hfew : ((backTo cpos (starEach (e :: es) X.env)).all (fun x => !x.1) && (backToKw cpos (keywordEach [] X.env)).all (fun x => x.1.isSome) && decide ((e :: es).length + ([] : List Keyword).length + (if ([] : List Keyword).isEmpty then 0 else 1) < 30)) = true := by rfl)
    (hline : (apos.endLine == cpos.line) = true := by rfl) (hs : starEach (e :: es) X.env = (false, eval e X.env) :: starEach es X.env := by rfl) (hplain : (backTo cpos (starEach es X.env)).any (·.1) = false := by rfl) :
    PE X (.Call (.Attribute o name apos) (e :: es) [] cpos) (tBM K T r to t) := by subst h; exact pe_bm pa slot hty hm ho ha hbase hfew hline hs hplain
theorem pe_bm0K {T id : String} {name : Str} {r : V → List V → Hp → VK → Prop} (pa : PlainAttrs T) (slot : Slot T name id) (hty : typeOf (.builtin id) = pure (.type "method_descriptor")) (hm : MtR X id r) (ho : PE X o to) (h : X.K = K := by rfl)
    (hbase : attributeBase o name X.env (eval o X.env) = eval o X.env := by rfl) (hline : (apos.endLine == cpos.line) = true := by rfl) : PE X (.Call (.Attribute o name apos) [] [] cpos) (tBM0 K T r to) := by subst h; exact pe_bm0 pa slot hty hm ho hbase hline
def tTruth (K : PySem.W.Frag) (te : TE) : TT := fun σ H Q => te σ H fun x H' => ∃ k, TruV K x H' k ∧ Q k H'
theorem pt_truthK (ha : PE X a te) (he : ∀ whole, isTrue a X.env whole = (do let v ← whole; standAt a.pos; holding [v] (truthy v)) := by intro _; rfl) (h : X.K = K := by rfl) : PT X a (tTruth K te) := by subst h; exact pt_truth ha he
theorem pe_get2 {f : Expr} {td ty tx : TE} (hu : X.A.units + 1 < cLine) (ho : PE X o td) (he : PE X e ty) (hf : PE X f tx) (h1 : attributeBase o "get" X.env (eval o X.env) = eval o X.env := by rfl)
    (h2 : ((backTo cpos (starEach [e, f] X.env)).all (fun x => !x.1) && (backToKw cpos (keywordEach [] X.env)).all (fun x => x.1.isSome) && decide (([e, f] : List Expr).length + ([] : List Keyword).length + (if ([] : List Keyword).isEmpty then 0 else 1) < 30)) = true := by rfl)
    (h3 : (apos.endLine == cpos.line) = true := by rfl) (h4 : backTo cpos (starEach [e, f] X.env) = [(false, eval e X.env), (false, eval f X.env)] := by rfl) : PE X (.Call (.Attribute o "get" apos) [e, f] [] cpos) (tDGet2 td ty tx) := pe_dget2 hu ho he hf ⟨h1, h2, h3, h4⟩
theorem pe_get1 {td ty : TE} (hu : X.A.units + 1 < cLine) (ho : PE X o td) (he : PE X e ty) (h1 : attributeBase o "get" X.env (eval o X.env) = eval o X.env := by rfl)
    (h2 : ((backTo cpos (starEach [e] X.env)).all (fun x => !x.1) && (backToKw cpos (keywordEach [] X.env)).all (fun x => x.1.isSome) && decide (([e] : List Expr).length + ([] : List Keyword).length + (if ([] : List Keyword).isEmpty then 0 else 1) < 30)) = true := by rfl)
    (h3 : (apos.endLine == cpos.line) = true := by rfl) (h4 : backTo cpos (starEach [e] X.env) = [(false, eval e X.env)] := by rfl) : PE X (.Call (.Attribute o "get" apos) [e] [] cpos) (tDGet1 td ty) := pe_dget1 hu ho he ⟨h1, h2, h3, h4⟩
/-- a text from behind -/
def revS (x : Str) : Str := tx (sg x).reverse
def tRevS (te : TE) : TE := fun σ H Q => te σ H fun v H1 => ∃ z, v = .str z ∧ z.length ≤ sizeLine ∧ Q (.str (revS z)) H1
theorem sliced_rev (z : Str) (st : Option (Int × Tok)) (h : st.map (·.1) = some (-1)) : (⟨((PySem.slicePicked z none none st).filterMap (z.cps[·]?)).toArray⟩ : Str) = revS z := by
  have pk : PySem.slicePicked z none none st = (List.range z.length).map fun k => z.length - 1 - k := by
    unfold PySem.slicePicked
    rw [h]
    exact picked_rev _
  unfold revS tx sg
  congr 2
  rw [pk, filterMap_get, List.map_map]
  · refine List.ext_getElem (by simp [Str.length]) fun i h1 h2 => ?_
    have hi : i < z.cps.size := by simpa using h2
    have hj : z.length - 1 - i < z.cps.size := by
      show z.cps.size - 1 - i < _
      omega
    rw [List.getElem_map, List.getElem_range, List.getElem_reverse]
    show z.cps.getD (z.length - 1 - i) 0 = _
    rw [Array.getElem_toList]
    unfold Array.getD
    rw [dif_pos hj]
    rfl
  · rintro i hi
    obtain ⟨k, hk, rfl⟩ := List.mem_map.mp hi
    have := List.mem_range.mp hk
    show z.length - 1 - k < z.length
    omega
theorem pe_revS {kk : Nat} {q1 q2 q3 : Pos} (ho : PE X o to) : PE X (.Subscript o (.Slice none none (some (.UnaryOp .USub (.Constant (.int 1) kk q1) q2)) q3) pos) (tRevS to) := by
  constructor
  intro pins sh σ H Q I want
  apply Subscript_
  apply thn (ho.run pins sh σ H _ I want)
  rintro v sa ⟨y, Ha, Ia, ry, z, rfl, hz, qz⟩
  obtain ⟨tk, rfl⟩ := ry
  have pst : PO X (some (.UnaryOp .USub (.Constant (.int 1) kk q1) q2)) (tPart (tUn (rU fun j => .int (-j)) (tC (.int 1)))) := po_some (pe_un un_neg pe_int)
  apply wpAny_Slice
  apply thn (po_none.run pins sa σ Ha (fun part Hb => part = none ∧ Hb = Ha) Ia ⟨rfl, rfl⟩)
  rintro vl sb ⟨pl, Hb, Ib, isl, rfl, rfl⟩
  apply thn (po_none.run pins sb σ Hb (fun part Hc => part = none ∧ Hc = Hb) Ib ⟨rfl, rfl⟩)
  rintro vu sc ⟨pu, Hc, Ic, isu, rfl, rfl⟩
  apply thn (pst.run pins sc σ Hc (fun part Hd => part = some (-1) ∧ Hd = Hc) Ic ⟨1, rfl, -1, rfl, rfl, rfl⟩)
  rintro vs sd ⟨ps, Hd, Id, iss, rfl, rfl⟩
  have Ie : Inv X pins σ Hd ⟨sd.heap.push { cls := .type "slice", data := .fields #[vl, vu, vs] }, sd.gens, sd.drawn, sd.toks, sd.os⟩ := Id.kept (t' := sd.toks) fun b ob w => Heap.get?_push_of_some _ w
  obtain ⟨l1, rfl, e1⟩ := IsPart.raw isl
  obtain ⟨l2, rfl, e2⟩ := IsPart.raw isu
  obtain ⟨l3, rfl, e3⟩ := IsPart.raw iss
  obtain rfl : l1 = none := by cases l1 with
    | none => rfl
    | some _ => cases e1
  obtain rfl : l2 = none := by cases l2 with
    | none => rfl
    | some _ => cases e2
  show wpAny (model X.prog X.w) X.A (subscriptTail o (.Slice none none (some (.UnaryOp .USub (.Constant (.int 1) kk q1) q2)) q3) (.str z tk) (.ref sd.heap.objs.size)) (EP X pins σ Q) X.xe ⟨sd.heap.push { cls := .type "slice", data := .fields #[partValue none, partValue none, partValue l3] }, sd.gens, sd.drawn, sd.toks, sd.os⟩
  apply tail_any (ops := [.ref sd.heap.objs.size, .str z tk]) (typeIs_str _ _ _) PySem.F.slot_str_getitem.lookup ?_ (by with_unfolding_all rfl)
  apply wpAny_getItem_str_slice (l := none) (u := none) (st := l3) ⟨_, Heap.get?_push_size _ rfl, rfl, rfl⟩ (by rw [e3]; rfl)
  have hb : ((l3.map (·.1)).getD 1 == 1) = false := by rw [e3]; rfl
  unfold PySem.sliceMade
  rw [hb, Bool.false_and, if_neg Bool.false_ne_true, sliced_rev z l3 e3]
  exact ⟨by show (sg z).reverse.length ≤ _; rw [List.length_reverse]; exact hz, .str (revS z), Hd, Ie.tok _, ⟨_, rfl⟩, qz⟩
end
end My

/-! sorted of texts, any number of them: of a dict by its keys, of a list or tuple -/
namespace My
open PySem PySem.Spec PyProof.Rows L2 Evl
def leS (x y : Str) : Bool := decide (x.cps.toList ≤ y.cps.toList)
def sortS (xs : List Str) : List Str := xs.mergeSort leS
theorem le_dataS : PySem.W.dataLe false (fun b : Str => PyData.str b) = leS := PySem.W.dataLe_str fun b => b
section
variable {X : Cx} {K : PySem.W.Frag}
theorem each_strs : ∀ {us : List Value} {ks : List Str}, StrsAre us ks → PySem.W.EachIs (fun v b => ∃ t, v = Value.str b t) us ks
  | _, _, .nil => .nil
  | _, _, .cons x t h => .cons ⟨t, rfl⟩ (each_strs h)
theorem strs_each : ∀ {us : List Value} {ks : List Str}, PySem.W.EachIs (fun v b => ∃ t, v = Value.str b t) us ks → StrsAre us ks
  | _, _, .nil => .nil
  | _, _, .cons ⟨t, e⟩ h => by
    subst e
    exact .cons _ t (strs_each h)
def rSortDct (K : PySem.W.Frag) : List V → Hp → VK → Prop := fun xs H Q => ∃ (a : Addr) (kvs : List (Key × V)) (ks : List Str), xs = [.ref a] ∧ Rd H a (.dK kvs) ∧ kvs.map (·.1) = ks.map Sum.inr ∧ ks.length ≤ 100000 ∧
  ∀ p, H p = none → Q (.ref p) (upd H p (.lst ((sortS ks).map V.str)))
theorem cr_sortDct (hcalm : X.calm = true) (hu : X.A.units + 64 < cLine) : CallR X (.builtin "sorted") (rSortDct K) := by
  intro pins st σ H xs us Q I r q
  obtain ⟨a, kvs, ks, rfl, hd, hks, hmax, q⟩ := q
  obtain ⟨u, rfl, rx⟩ := vals1 r
  cases rx
  obtain ⟨z, lo, vs, rel, dd⟩ := dk_rd I.hok hd
  obtain ⟨ep, hat⟩ := dd.dictAt
  have keys : vs.map (·.1) = ks.map Sum.inr := rel.keys.symm.trans hks
  have hlen : vs.length = ks.length := by simpa using congrArg List.length keys
  have big : 100000 ≤ sizeLine := by decide
  refine Calls.call_function_entry PyProof.Rows.kind_sorted PyProof.Rows.plain_sorted PyProof.Rows.entry_sorted (PyProof.Rows.args_sorted1 _) ?_
  unfold Builtin.«sorted»
  refine wpAny_bind (m := checkCount "sorted" 1 1 _) (wpAny_pure ?_)
  refine wpAny_bind (PySem.W.kdu_collect (A := X.A.in1) (PySem.W.kdl_dict (knd := mixKind X.prog X.w) (kvs := vs) (ep := ep) lo) (I.ok.hd hcalm) hat (by omega) fun h2 tk acc kept hacc => ?_)
  have alen : acc.toList.length = ks.length := by rw [Array.length_toList, hacc.1, hlen]
  have hS : StrsAre acc.toList ks := L2.strs_at alen fun j v e => by
    obtain ⟨k, x, e1, e2⟩ := hacc.2 j v (by rw [← Array.getElem?_toList]; exact e)
    have e3 : (vs.map (·.1))[j]? = some k := by rw [List.getElem?_map, e1]; rfl
    rw [keys, List.getElem?_map] at e3
    cases e4 : ks[j]? with
    | none => rw [e4] at e3; cases e3
    | some y =>
      rw [e4] at e3
      obtain rfl : Sum.inr y = k := Option.some.inj e3
      obtain ⟨t, ev⟩ := Value.isStrOf_shape (x := y) (v := v) e2
      exact ⟨y, t, rfl, ev⟩
  have I2 : Inv X pins σ H { st with heap := h2, toks := tk } := I.kept kept
  refine wpAny_bind (wpAny_newList ?_ (by rw [alen]; omega))
  have hobj : (h2.push (seqObj "list" acc.toList.toArray 0)).get? h2.objs.size = some (seqObj "list" acc.toList.toArray 0) := Heap.get?_push_size _ rfl
  show wpAny _ _ _ _ _ { st with heap := h2.push (seqObj "list" acc.toList.toArray 0), toks := tk }
  refine wpAny_bind (wpAny_holding (PySem.W.list_sort_data (A := X.A.in1) (R := fun v (b : Str) => ∃ t, v = Value.str b t) (enc := fun b : Str => PyData.str b) (bs := ks) hobj (each_strs hS) ((each_strs hS).mono fun v b ⟨t, e⟩ => ?_)
    (PySem.W.AllAlike.of fun _ _ => rfl) (PySem.W.Sortable.others fun _ => ⟨(fun z => nomatch z), (fun _ z => nomatch z)⟩) (by omega) (fun b _ => ?_) fun out olen eo => ?_))
  · subst e
    exact ⟨[], .str b t, by simp⟩
  · show X.A.units + 1 + 1 + 0 < cLine
    omega
  rw [le_dataS] at eo
  have hS2 := strs_each eo
  obtain ⟨e', he'⟩ := PyProof.Rows.sortedHeap_at (vs := acc.toList) (out := out.toArray) hobj
  have l2 : ((sortS ks).map V.str).length ≤ sizeLine := by
    unfold sortS
    rw [List.length_map, List.length_mergeSort]
    omega
  refine wpAny_pure ⟨_, rfl, .ref h2.objs.size, upd H h2.objs.size (.lst ((sortS ks).map V.str)), I2.laid (t' := tk) (fun b u e => ?_) (Nat.le_refl _)
    (show ObjOk X.prog X.w _ _ _ (.lst ((sortS ks).map V.str)) from ⟨l2, out, e', vals_of_strs hS2, he'⟩), rfl, q _ (I2.hok.fresh (Nat.le_refl _))⟩
  have hb : b < h2.objs.size := Heap.lt_size e
  rw [PyProof.Rows.sortedHeap_old (Nat.ne_of_lt hb) (by rw [size_push']; exact Nat.lt_succ_of_lt hb)]
  exact Heap.get?_push_of_some _ e
def rSortLst (K : PySem.W.Frag) : List V → Hp → VK → Prop := fun xs H Q => ∃ (a : Addr) (ks : List Str), xs = [.ref a] ∧ SqL K H a (ks.map V.str) ∧ ks.length ≤ 100000 ∧ ∀ p, H p = none → Q (.ref p) (upd H p (.lst ((sortS ks).map V.str)))
theorem cr_sortLst (hu : X.A.units + 64 < cLine) (hK : X.K = K := by rfl) : CallR X (.builtin "sorted") (rSortLst K) := by
  subst hK
  intro pins st σ H xs us Q I r q
  obtain ⟨a, ks, rfl, hs, hmax, q⟩ := q
  obtain ⟨its, rv, hl, _⟩ := I.list hs
  rw [Vals.ref1 r]
  have hS := rv.strs
  have big : 100000 ≤ sizeLine := by decide
  refine PySem.W.sorted_data (R := fun v (b : Str) => ∃ t, v = Value.str b t) (enc := fun b : Str => PyData.str b) (bs := ks) hl.isList (each_strs hS) ((each_strs hS).mono fun v b ⟨t, e⟩ => ?_)
    (PySem.W.AllAlike.of fun _ _ => rfl) (PySem.W.Sortable.others fun _ => ⟨(fun z => nomatch z), (fun _ z => nomatch z)⟩) (by omega) (fun b _ => ?_) fun out olen eo => ?_
  · subst e
    exact ⟨[], .str b t⟩
  · show X.A.units + 2 + 0 < cLine
    omega
  rw [le_dataS] at eo
  have hS2 := strs_each eo
  obtain ⟨ep, he'⟩ := PyProof.Rows.sortedAll_at st.heap its out.toArray
  have l2 : ((sortS ks).map V.str).length ≤ sizeLine := by
    unfold sortS
    rw [List.length_map, List.length_mergeSort]
    omega
  exact ⟨.ref _, upd H (st.heap.objs.size + 1) (.lst ((sortS ks).map V.str)), I.laid (t' := st.toks) (fun _ _ => PyProof.Rows.sortedAll_old) (Nat.le_succ _) ⟨l2, out, ep, vals_of_strs hS2, he'⟩, rfl, q _ (I.hok.fresh (Nat.le_succ _))⟩
end
/-! ### what sorted gives -/
theorem leS_total : PySem.W.TotalLe leS where
  trans := fun a b c h1 h2 => decide_eq_true (List.le_trans (of_decide_eq_true h1) (of_decide_eq_true h2))
  total := fun a b => (List.le_total a.cps.toList b.cps.toList).elim (fun h => .inl (decide_eq_true h)) fun h => .inr (decide_eq_true h)
theorem sortS_perm (xs : List Str) : (sortS xs).Perm xs := List.mergeSort_perm xs leS
theorem sortS_mem {xs : List Str} {x : Str} : x ∈ sortS xs ↔ x ∈ xs := (sortS_perm xs).mem_iff
theorem sortS_len (xs : List Str) : (sortS xs).length = xs.length := (sortS_perm xs).length_eq
theorem sortS_asc {xs : List Str} (h : xs.Nodup) : Asc (sortS xs) := by
  have h1 := PySem.W.sort_pairwise leS_total xs
  have h2 : (sortS xs).Nodup := (sortS_perm xs).symm.nodup h
  refine (h1.and h2).imp fun {a b} ⟨le, ne⟩ => ?_
  have le' : a.cps.toList ≤ b.cps.toList := of_decide_eq_true le
  by_cases hlt : sg a < sg b
  · exact hlt
  · exact absurd (sg_inj (List.le_antisymm le' (List.not_lt.mp hlt))) ne
theorem Asc.nodup {xs : List Str} (h : Asc xs) : xs.Nodup := h.imp fun {a b} hlt e => by
  subst e
  exact List.lt_irrefl _ hlt
theorem lt_trans' {a b c : Str} (h1 : lt a b) (h2 : lt b c) : lt a c := List.lt_trans h1 h2
theorem lt_asymm' {a b : Str} (h1 : lt a b) (h2 : lt b a) : False := List.lt_asymm h1 h2
/-- an ascending list is told by its members -/
theorem asc_ext : ∀ {xs ys : List Str}, Asc xs → Asc ys → (∀ z, z ∈ xs ↔ z ∈ ys) → xs = ys
  | [], [], _, _, _ => rfl
  | [], y :: ys, _, _, h => absurd ((h y).mpr (List.mem_cons_self ..)) (by simp)
  | x :: xs, [], _, _, h => absurd ((h x).mp (List.mem_cons_self ..)) (by simp)
  | x :: xs, y :: ys, hx, hy, h => by
    obtain ⟨hx1, hx2⟩ := List.pairwise_cons.mp hx
    obtain ⟨hy1, hy2⟩ := List.pairwise_cons.mp hy
    have e : x = y := by
      rcases List.mem_cons.mp ((h x).mp (List.mem_cons_self ..)) with e | h1
      · exact e
      · rcases List.mem_cons.mp ((h y).mpr (List.mem_cons_self ..)) with e | h2
        · exact e.symm
        · exact (lt_asymm' (hy1 x h1) (hx1 y h2)).elim
    subst e
    rw [asc_ext hx2 hy2 fun z => ⟨fun hz => ?_, fun hz => ?_⟩]
    · rcases List.mem_cons.mp ((h z).mp (List.mem_cons_of_mem _ hz)) with e | h1
      · subst e
        exact absurd (hx1 z hz) (List.lt_irrefl _)
      · exact h1
    · rcases List.mem_cons.mp ((h z).mpr (List.mem_cons_of_mem _ hz)) with e | h1
      · subst e
        exact absurd (hy1 z hz) (List.lt_irrefl _)
      · exact h1
theorem sortS_id {xs : List Str} (h : Asc xs) : sortS xs = xs := asc_ext (sortS_asc h.nodup) h fun _ => sortS_mem
end My

/-! webs: places, what is come to; dicts with text keys -/
namespace My
open PySem PySem.Spec PyProof.Rows L2 Evl
theorem nodup_one {α : Type} (a : α) : [a].Nodup := List.nodup_cons.mpr ⟨List.not_mem_nil, List.nodup_nil⟩
theorem nodup_len {α : Type} [DecidableEq α] : ∀ {ks l : List α}, ks.Nodup → (∀ x ∈ ks, x ∈ l) → ks.length ≤ l.length
  | [], _, _, _ => Nat.zero_le _
  | k :: ks, l, nd, h => by
    obtain ⟨h1, h2⟩ := List.nodup_cons.mp nd
    have hk : k ∈ l := h k (List.mem_cons_self ..)
    have ih := nodup_len (l := l.erase k) h2 fun x hx => by
      have hne : x ≠ k := fun e => h1 (e ▸ hx)
      exact (List.mem_erase_of_ne hne).mpr (h x (List.mem_cons_of_mem _ hx))
    have hl := List.length_erase_of_mem hk
    have hp : 0 < l.length := List.length_pos_of_mem hk
    rw [List.length_cons]
    omega
/-! ### what is come to, step by step -/
inductive Rch (sc : Str → List Str) (a : Str) : Str → Prop
  | refl : Rch sc a a
  | step {b c : Str} : Rch sc a b → c ∈ sc b → Rch sc a c
theorem Rch.trans {sc : Str → List Str} {a b c : Str} (h1 : Rch sc a b) (h2 : Rch sc b c) : Rch sc a c := by
  induction h2 with
  | refl => exact h1
  | step _ h ih => exact ih.step h
/-- a flood under way: found, waiting; op: what is being looked at -/
structure Srch (sc : Str → List Str) (s : Str) (ks wl : List Str) (op : Str → Prop) : Prop where
  mem : s ∈ ks
  nd : ks.Nodup
  rch : ∀ q ∈ ks, Rch sc s q
  sub : ∀ q ∈ wl, q ∈ ks
  cls : ∀ q ∈ ks, q ∈ wl ∨ op q ∨ ∀ r ∈ sc q, r ∈ ks
theorem Srch.start {sc : Str → List Str} {s : Str} : Srch sc s [s] [s] fun _ => False :=
  ⟨List.mem_singleton.mpr rfl, nodup_one s, fun q h => by rw [List.mem_singleton.mp h]; exact .refl, fun q h => h, fun q h => .inl h⟩
theorem Srch.done {sc : Str → List Str} {s : Str} {ks : List Str} (S : Srch sc s ks [] fun _ => False) (q : Str) : q ∈ ks ↔ Rch sc s q := by
  refine ⟨S.rch q, fun h => ?_⟩
  induction h with
  | refl => exact S.mem
  | step _ hc ih =>
    rcases S.cls _ ih with h | h | h
    · cases h
    · exact h.elim
    · exact h _ hc
theorem Srch.pop {sc : Str → List Str} {s p : Str} {ks wl : List Str} (S : Srch sc s ks (wl ++ [p]) fun _ => False) : Srch sc s ks wl fun q => q = p :=
  ⟨S.mem, S.nd, S.rch, fun q h => S.sub q (List.mem_append_left _ h), fun q h => by
    rcases S.cls q h with h | h | h
    · rcases List.mem_append.mp h with h | h
      · exact .inl h
      · exact .inr (.inl (List.mem_singleton.mp h))
    · exact h.elim
    · exact .inr (.inr h)⟩
theorem Srch.put {sc : Str → List Str} {s p r : Str} {ks wl : List Str} (S : Srch sc s ks wl fun q => q = p) (hp : p ∈ ks) (hr : r ∈ sc p) (hn : r ∉ ks) : Srch sc s (ks ++ [r]) (wl ++ [r]) fun q => q = p :=
  ⟨List.mem_append_left _ S.mem, List.nodup_append.mpr ⟨S.nd, nodup_one r, fun a ha b hb e => hn (by rw [← List.mem_singleton.mp hb, ← e]; exact ha)⟩, fun q h => by
    rcases List.mem_append.mp h with h | h
    · exact S.rch q h
    · rw [List.mem_singleton.mp h]
      exact (S.rch p hp).step hr, fun q h => by
    rcases List.mem_append.mp h with h | h
    · exact List.mem_append_left _ (S.sub q h)
    · exact List.mem_append_right _ h, fun q h => by
    rcases List.mem_append.mp h with h | h
    · rcases S.cls q h with h | h | h
      · exact .inl (List.mem_append_left _ h)
      · exact .inr (.inl h)
      · exact .inr (.inr fun z hz => List.mem_append_left _ (h z hz))
    · exact .inl (List.mem_append_right _ h)⟩
theorem Srch.shut {sc : Str → List Str} {s p : Str} {ks wl : List Str} (S : Srch sc s ks wl fun q => q = p) (h : ∀ r ∈ sc p, r ∈ ks) : Srch sc s ks wl fun _ => False :=
  ⟨S.mem, S.nd, S.rch, S.sub, fun q hq => by
    rcases S.cls q hq with h' | h' | h'
    · exact .inl h'
    · subst h'
      exact .inr (.inr h)
    · exact .inr (.inr h')⟩
/-! ### dicts with text keys -/
abbrev kS (k : Str) : Key := Sum.inr k
theorem inr_inj {a b : Str} : (kS a = kS b) ↔ a = b := ⟨fun h => Sum.inr.inj h, fun h => congrArg _ h⟩
theorem valV_keys {kvs : List (Key × V)} {ks : List Str} (h : kvs.map (·.1) = ks.map kS) (k : Str) : (valV kvs (kS k)).isSome = decide (k ∈ ks) := by
  rw [← valV_any]
  have e : (kvs.any fun kv => decide (kv.1 = kS k)) = ((kvs.map (·.1)).any fun z => decide (z = kS k)) := by rw [List.any_map]; rfl
  rw [e, h, List.any_map]
  have e2 : (ks.any ((fun z => decide (z = kS k)) ∘ kS)) = ks.any fun z => decide (z = k) := by
    congr 1
    funext z
    exact decide_eq_decide.mpr inr_inj
  rw [e2]
  by_cases hk : k ∈ ks
  · rw [decide_eq_true hk]
    exact List.any_eq_true.mpr ⟨k, hk, decide_eq_true rfl⟩
  · rw [decide_eq_false hk]
    refine Bool.eq_false_iff.mpr fun z => hk ?_
    obtain ⟨y, hy, e⟩ := List.any_eq_true.mp z
    rw [← of_decide_eq_true e]
    exact hy
theorem valV_none {kvs : List (Key × V)} {ks : List Str} (h : kvs.map (·.1) = ks.map kS) {k : Str} (hk : k ∉ ks) : valV kvs (kS k) = none := by
  have e := valV_keys h k
  rw [decide_eq_false hk] at e
  cases q : valV kvs (kS k) with
  | none => rfl
  | some v => rw [q] at e; cases e
theorem putK_keys {kvs : List (Key × V)} {ks : List Str} (h : kvs.map (·.1) = ks.map kS) (k : Str) (v : V) : (putK kvs (kS k) v).map (·.1) = (if k ∈ ks then ks else ks ++ [k]).map kS := by
  unfold putK
  rw [valV_any, valV_keys h]
  by_cases hk : k ∈ ks
  · rw [if_pos (decide_eq_true hk), if_pos hk, List.map_map, ← h]
    refine List.map_congr_left fun p _ => ?_
    show (if p.1 = kS k then (p.1, v) else p).1 = p.1
    split <;> rfl
  · rw [if_neg (by rw [decide_eq_false hk]; exact Bool.false_ne_true), if_neg hk, List.map_append, h, List.map_append]
    rfl
/-- a dict of truths -/
def trues (ks : List Str) : List (Key × V) := ks.map fun k => (kS k, V.bl true)
theorem trues_keys (ks : List Str) : (trues ks).map (·.1) = ks.map kS := by
  unfold trues
  rw [List.map_map]
  rfl
theorem trues_put {ks : List Str} {k : Str} (h : k ∉ ks) : putK (trues ks) (kS k) (V.bl true) = trues (ks ++ [k]) := by
  rw [putK_new _ (valV_none (trues_keys ks) h)]
  unfold trues
  rw [List.map_append]
  rfl
theorem trues_put_in {ks : List Str} {k : Str} (h : k ∈ ks) : putK (trues ks) (kS k) (V.bl true) = trues ks := by
  unfold putK
  rw [if_pos (by rw [valV_any, valV_keys (trues_keys ks)]; exact decide_eq_true h)]
  unfold trues
  rw [List.map_map]
  refine List.map_congr_left fun x _ => ?_
  show (if kS x = kS k then (kS x, V.bl true) else (kS x, V.bl true)) = _
  split <;> rfl
theorem trues_len (ks : List Str) : (trues ks).length = ks.length := List.length_map ..
/-- k added, if it is not there -/
def addS (ks : List Str) (k : Str) : List Str := if k ∈ ks then ks else ks ++ [k]
theorem addS_mem {ks : List Str} {k z : Str} : z ∈ addS ks k ↔ z ∈ ks ∨ z = k := by
  unfold addS
  split
  · rename_i h
    exact ⟨.inl, fun q => q.elim id fun e => e ▸ h⟩
  · rw [List.mem_append, List.mem_singleton]
theorem addS_nd {ks : List Str} (h : ks.Nodup) (k : Str) : (addS ks k).Nodup := by
  unfold addS
  split
  · exact h
  · rename_i hn
    exact List.nodup_append.mpr ⟨h, nodup_one k, fun a ha b hb e => hn (by rw [← List.mem_singleton.mp hb, ← e]; exact ha)⟩
theorem addS_len (ks : List Str) (k : Str) : (addS ks k).length ≤ ks.length + 1 := by
  unfold addS
  split
  · omega
  · rw [List.length_append]
    exact Nat.le_refl _
theorem trues_add (ks : List Str) (k : Str) : putK (trues ks) (kS k) (V.bl true) = trues (addS ks k) := by
  unfold addS
  split
  · rename_i h
    exact trues_put_in h
  · rename_i h
    exact trues_put h
/-- the texts of a list, each once, as they come -/
def ded (xs : List Str) : List Str := xs.foldl addS []
theorem ded_snoc (xs : List Str) (x : Str) : ded (xs ++ [x]) = addS (ded xs) x := by
  unfold ded
  rw [List.foldl_append]
  rfl
theorem foldl_addS_mem : ∀ {xs ks : List Str} {z : Str}, z ∈ xs.foldl addS ks ↔ z ∈ ks ∨ z ∈ xs
  | [], ks, z => by simp
  | x :: xs, ks, z => by
    rw [List.foldl_cons, foldl_addS_mem, addS_mem, List.mem_cons]
    exact or_assoc
theorem ded_mem {xs : List Str} {z : Str} : z ∈ ded xs ↔ z ∈ xs := by
  unfold ded
  rw [foldl_addS_mem]
  simp
theorem foldl_addS_nd : ∀ {xs ks : List Str}, ks.Nodup → (xs.foldl addS ks).Nodup
  | [], _, h => h
  | x :: xs, _, h => foldl_addS_nd (xs := xs) (addS_nd h x)
theorem ded_nd (xs : List Str) : (ded xs).Nodup := foldl_addS_nd List.nodup_nil
theorem ded_le (xs : List Str) : (ded xs).length ≤ xs.length := nodup_len (ded_nd xs) fun _ h => ded_mem.mp h
/-! ### places -/
def plcs (ws : List Str) : List Str := ws.flatMap fun x => [begS x, endS x]
theorem plcs_mem {ws : List Str} {p : Str} : p ∈ plcs ws ↔ ∃ x ∈ ws, p = begS x ∨ p = endS x := by
  unfold plcs
  rw [List.mem_flatMap]
  simp
theorem plcs_len (ws : List Str) : (plcs ws).length = 2 * ws.length := by
  unfold plcs
  induction ws with
  | nil => rfl
  | cons x ws ih =>
    rw [List.flatMap_cons, List.length_append, ih, List.length_cons]
    show 2 + 2 * ws.length = 2 * (ws.length + 1)
    omega
theorem plcs_app (a b : List Str) : plcs (a ++ b) = plcs a ++ plcs b := List.flatMap_append
theorem ded_plcs {ws : List Str} {i : Nat} {z : Str} (h : ws[i]? = some z) : ded (plcs (ws.take (i + 1))) = addS (addS (ded (plcs (ws.take i))) (begS z)) (endS z) := by
  have e : ws.take (i + 1) = ws.take i ++ [z] := by rw [List.take_add_one, h]; rfl
  have e2 : plcs (ws.take i ++ [z]) = (plcs (ws.take i) ++ [begS z]) ++ [endS z] := by
    rw [plcs_app, List.append_assoc]
    rfl
  rw [e, e2, ded_snoc, ded_snoc]
/-- the places, ascending -/
def places (ws : List Str) : List Str := sortS (ded (plcs ws))
theorem places_mem {ws : List Str} {p : Str} : p ∈ places ws ↔ p ∈ plcs ws := sortS_mem.trans ded_mem
theorem places_asc (ws : List Str) : Asc (places ws) := sortS_asc (ded_nd _)
theorem places_len (ws : List Str) : (places ws).length ≤ 2 * ws.length := by
  unfold places
  rw [sortS_len, ← plcs_len]
  exact ded_le _
/-- the windows that begin at a place, where they lead -/
def outs (ws : List Str) (p : Str) : List Str := ws.filter fun x => decide (begS x = p)
def nxts (ws : List Str) (p : Str) : List Str := (outs ws p).map endS
theorem outs_mem {ws : List Str} {p x : Str} : x ∈ outs ws p ↔ x ∈ ws ∧ begS x = p := by
  unfold outs
  rw [List.mem_filter, decide_eq_true_eq]
theorem nxts_mem {ws : List Str} {p q : Str} : q ∈ nxts ws p ↔ ∃ x ∈ ws, begS x = p ∧ endS x = q := by
  unfold nxts
  rw [List.mem_map]
  constructor
  · rintro ⟨x, hx, e⟩
    obtain ⟨h1, h2⟩ := outs_mem.mp hx
    exact ⟨x, h1, h2, e⟩
  · rintro ⟨x, h1, h2, e⟩
    exact ⟨x, outs_mem.mpr ⟨h1, h2⟩, e⟩
theorem beg_mem {ws : List Str} {x : Str} (h : x ∈ ws) : begS x ∈ plcs ws := plcs_mem.mpr ⟨x, h, .inl rfl⟩
theorem end_mem {ws : List Str} {x : Str} (h : x ∈ ws) : endS x ∈ plcs ws := plcs_mem.mpr ⟨x, h, .inr rfl⟩
theorem rch_plc {ws : List Str} {a b : Str} (ha : a ∈ plcs ws) (h : Rch (nxts ws) a b) : b ∈ plcs ws := by
  cases h with
  | refl => exact ha
  | step _ h =>
    obtain ⟨x, hx, _, rfl⟩ := nxts_mem.mp h
    exact end_mem hx
/-- all places come to one another -/
def Hang (ws : List Str) : Prop := ∀ p ∈ plcs ws, ∀ q ∈ plcs ws, Rch (nxts ws) p q
/-- .. and there is a window -/
def Sc (ws : List Str) : Prop := ws ≠ [] ∧ Hang ws
noncomputable def scB (ws : List Str) : Bool := @decide (Sc ws) (Classical.propDecidable _)
theorem scB_iff {ws : List Str} : scB ws = true ↔ Sc ws := by
  unfold scB
  exact @decide_eq_true_iff _ (Classical.propDecidable _)
theorem scB_false {ws : List Str} (h : ¬ Sc ws) : scB ws = false := Bool.eq_false_iff.mpr fun e => h (scB_iff.mp e)
theorem word_tx {l : List Nat} (h : ∀ c ∈ l, 97 ≤ c ∧ c ≤ 122) : Word (tx l) := h
theorem word_beg {x : Str} (h : Word x) : Word (begS x) := fun c hc => h c (List.dropLast_subset _ hc)
theorem word_end {x : Str} (h : Word x) : Word (endS x) := fun c hc => h c (List.drop_subset _ _ hc)
theorem len_beg (x : Str) : (begS x).length = x.length - 1 := by
  show ((sg x).dropLast).length = _
  rw [List.length_dropLast]
  rfl
theorem len_end (x : Str) : (endS x).length = x.length - 1 := by
  show ((sg x).drop 1).length = _
  rw [List.length_drop]
  rfl
theorem plcs_word {ws : List Str} {n : Nat} (h : ∀ x ∈ ws, Word x ∧ x.length = n) {p : Str} (hp : p ∈ plcs ws) : Word p ∧ p.length = n - 1 := by
  obtain ⟨x, hx, e⟩ := plcs_mem.mp hp
  obtain ⟨h1, h2⟩ := h x hx
  rcases e with rfl | rfl
  · exact ⟨word_beg h1, by rw [len_beg, h2]⟩
  · exact ⟨word_end h1, by rw [len_end, h2]⟩
/-! ### data that == takes -/
theorem layStrs : ∀ {ws : List Str}, (∀ x ∈ ws, Word x) → PyData.canLayAll0 (ws.map PyData.str) = true
  | [], _ => rfl
  | x :: ws, h => by
    show (PyData.strOk x && PyData.canLayAll0 (ws.map PyData.str)) = true
    rw [layStrs fun y hy => h y (List.mem_cons_of_mem _ hy), Bool.and_true]
    show x.cps.all (· < 0x110000) = true
    rw [← Array.all_toList]
    refine List.all_eq_true.mpr fun c hc => decide_eq_true ?_
    have := h x (List.mem_cons_self ..) c hc
    omega
theorem depthStrs : ∀ (ws : List Str), PyData.depthAll (ws.map PyData.str) = 0
  | [] => rfl
  | x :: ws => by
    show max 0 (PyData.depthAll (ws.map PyData.str)) = 0
    rw [depthStrs ws]
    rfl
theorem shapedL {ws : List Str} (h : ∀ x ∈ ws, Word x) : SeqAt.shaped (strsL ws) = true := by
  show (PyData.canLayAll0 (ws.map PyData.str) && decide (PyData.depthAll (ws.map PyData.str) + 1 ≤ 64)) = true
  rw [layStrs h, depthStrs]
  rfl
theorem shapedT {ws : List Str} (h : ∀ x ∈ ws, Word x) : SeqAt.shaped (strsT ws) = true := by
  show (PyData.canLayAll0 (ws.map PyData.str) && decide (PyData.depthAll (ws.map PyData.str) + 1 ≤ 64)) = true
  rw [layStrs h, depthStrs]
  rfl
theorem eqvStrs : ∀ (a b : List Str), PyData.eqvAll (a.map PyData.str) (b.map PyData.str) = decide (a = b)
  | [], [] => rfl
  | x :: a, [] => by rw [decide_eq_false (by simp)]; rfl
  | [], y :: b => by rw [decide_eq_false (by simp)]; rfl
  | x :: a, y :: b => by
    show (x == y && PyData.eqvAll (a.map PyData.str) (b.map PyData.str)) = _
    rw [eqvStrs a b]
    by_cases h1 : x = y
    · subst h1
      by_cases h2 : a = b
      · subst h2
        simp
      · rw [decide_eq_false h2, decide_eq_false (fun e => h2 (List.cons.inj e).2), Bool.and_false]
    · rw [decide_eq_false (fun e => h1 (List.cons.inj e).1), beq_eq_false_iff_ne.mpr h1, Bool.false_and]
theorem take_len {α : Type} (xs : List α) : xs.take xs.length = xs := List.take_length
end My

/-! dicts of lists, each list its own; a flood through one -/
namespace My
open PySem PySem.Spec PyProof.Rows L2 Evl
def wkv (rs : Str → Addr) (ks : List Str) : List (Key × V) := ks.map fun k => (kS k, V.ref (rs k))
theorem wkv_keys (rs : Str → Addr) (ks : List Str) : (wkv rs ks).map (·.1) = ks.map kS := by
  unfold wkv
  rw [List.map_map]
  rfl
theorem wkv_len (rs : Str → Addr) (ks : List Str) : (wkv rs ks).length = ks.length := List.length_map ..
theorem wkv_val {rs : Str → Addr} {k : Str} : ∀ {ks : List Str}, k ∈ ks → valV (wkv rs ks) (kS k) = some (.ref (rs k))
  | z :: ks, h => by
    by_cases e : z = k
    · subst e
      exact valV_pos rfl
    · show valV ((kS z, V.ref (rs z)) :: wkv rs ks) (kS k) = _
      rw [valV_neg fun q => e (inr_inj.mp q)]
      exact wkv_val ((List.mem_cons.mp h).resolve_left fun q => e q.symm)
theorem wkv_none {rs : Str → Addr} {k : Str} {ks : List Str} (h : k ∉ ks) : valV (wkv rs ks) (kS k) = none := valV_none (wkv_keys rs ks) h
theorem wkv_in {rs : Str → Addr} {k : Str} {ks : List Str} : (valV (wkv rs ks) (kS k)).isSome = decide (k ∈ ks) := valV_keys (wkv_keys rs ks) k
/-- such a dict, under way -/
structure Wb (Hb H : Hp) (d : Addr) (ks : List Str) (f : Str → List Str) (rs : Str → Addr) : Prop where
  e : Ex Hb H
  nd : Hb d = none
  nk : ks.Nodup
  hd : H d = some (.dK (wkv rs ks))
  row : ∀ k ∈ ks, Hb (rs k) = none ∧ H (rs k) = some (.lst ((f k).map V.str))
  inj : ∀ k ∈ ks, ∀ l ∈ ks, rs k = rs l → k = l
theorem Wb.start {Hb : Hp} {d : Addr} {f : Str → List Str} {rs : Str → Addr} (h : Hb d = none) : Wb Hb (upd Hb d (.dK [])) d [] f rs :=
  ⟨Ex.new h, h, List.nodup_nil, upd_same, fun _ z => (List.not_mem_nil z).elim, fun _ z => (List.not_mem_nil z).elim⟩
theorem Wb.put {Hb H : Hp} {d p : Addr} {ks : List Str} {f : Str → List Str} {rs : Str → Addr} {k : Str} (w : Wb Hb H d ks f rs) (hk : k ∉ ks) (hp : H p = none) (hf : f k = []) :
    Wb Hb (upd (upd H p (.lst [])) d (.dK (putK (wkv rs ks) (kS k) (.ref p)))) d (ks ++ [k]) f (fun z => if z = k then p else rs z) := by
  have hdp : d ≠ p := ne_of_none w.hd hp
  have same : ∀ z ∈ ks, (if z = k then p else rs z) = rs z := fun z hz => if_neg fun (q : z = k) => hk (by rw [← q]; exact hz)
  have hpd : p ≠ d := fun q => hdp q.symm
  refine ⟨Ex.mut (Ex.mut w.e (fresh_back w.e hp)) w.nd, w.nd, List.nodup_append.mpr ⟨w.nk, nodup_one k, fun a ha b hb (q : a = b) => hk (by rw [← List.mem_singleton.mp hb, ← q]; exact ha)⟩, ?_, fun z hz => ?_, fun y hy z hz q => ?_⟩
  · rw [upd_same, putK_new _ (wkv_none hk)]
    unfold wkv
    rw [List.map_append]
    congr 2
    congr 1
    · refine List.map_congr_left fun z hz => ?_
      show (kS z, V.ref (rs z)) = (kS z, V.ref (if z = k then p else rs z))
      rw [same z hz]
    · show [(kS k, V.ref p)] = [(kS k, V.ref (if k = k then p else rs k))]
      rw [if_pos rfl]
  · rcases List.mem_append.mp hz with hz | hz
    · rw [same z hz]
      obtain ⟨h1, h2⟩ := w.row z hz
      refine ⟨h1, ?_⟩
      rw [upd_ne (ne_of h2 w.hd fun q => nomatch q), upd_ne (ne_of_none h2 hp)]
      exact h2
    · obtain rfl := List.mem_singleton.mp hz
      rw [if_pos rfl]
      refine ⟨fresh_back w.e hp, ?_⟩
      rw [upd_ne hpd, upd_same, hf]
      rfl
  · rcases List.mem_append.mp hy with hy | hy <;> rcases List.mem_append.mp hz with hz | hz
    · rw [same y hy, same z hz] at q
      exact w.inj y hy z hz q
    · have ez := List.mem_singleton.mp hz
      rw [same y hy, if_pos ez] at q
      exact absurd q (ne_of_none (w.row y hy).2 hp)
    · have ey := List.mem_singleton.mp hy
      rw [same z hz, if_pos ey] at q
      exact absurd q.symm (ne_of_none (w.row z hz).2 hp)
    · rw [List.mem_singleton.mp hy, List.mem_singleton.mp hz]
theorem Wb.app {Hb H : Hp} {d : Addr} {ks : List Str} {f : Str → List Str} {rs : Str → Addr} {k x : Str} (w : Wb Hb H d ks f rs) (hk : k ∈ ks) :
    Wb Hb (upd H (rs k) (.lst ((f k).map V.str ++ [.str x]))) d ks (fun z => if z = k then f k ++ [x] else f z) rs := by
  obtain ⟨h1, h2⟩ := w.row k hk
  refine ⟨Ex.mut w.e h1, w.nd, w.nk, ?_, fun z hz => ⟨(w.row z hz).1, ?_⟩, w.inj⟩
  · rw [upd_ne (ne_of w.hd h2 fun q => nomatch q)]
    exact w.hd
  · by_cases hzk : z = k
    · subst hzk
      rw [upd_same, if_pos rfl, List.map_append]
      rfl
    · rw [upd_ne fun q => hzk (w.inj z hz k hk q), if_neg hzk]
      exact (w.row z hz).2
theorem Wb.as {Hb H : Hp} {d : Addr} {ks : List Str} {f g : Str → List Str} {rs : Str → Addr} (w : Wb Hb H d ks f rs) (h : ∀ k ∈ ks, f k = g k) : Wb Hb H d ks g rs :=
  ⟨w.e, w.nd, w.nk, w.hd, fun k hk => by rw [← h k hk]; exact w.row k hk, w.inj⟩
theorem Wb.new {Hb H : Hp} {d p : Addr} {ks : List Str} {f : Str → List Str} {rs : Str → Addr} {o : HO} (w : Wb Hb H d ks f rs) (hp : H p = none) : Wb Hb (upd H p o) d ks f rs :=
  ⟨w.e.trans (Ex.new hp), w.nd, w.nk, Ex.new hp _ _ w.hd, fun k hk => ⟨(w.row k hk).1, Ex.new hp _ _ (w.row k hk).2⟩, w.inj⟩
theorem Wb.ex {Hb H H' : Hp} {d : Addr} {ks : List Str} {f : Str → List Str} {rs : Str → Addr} (w : Wb Hb H d ks f rs) (e : Ex H H') : Wb Hb H' d ks f rs :=
  ⟨w.e.trans e, w.nd, w.nk, e _ _ w.hd, fun k hk => ⟨(w.row k hk).1, e _ _ (w.row k hk).2⟩, w.inj⟩
theorem Ex.upd2 {H H' : Hp} {p : Addr} {o : HO} (e : Ex H H') : Ex (upd H p o) (upd H' p o) := fun a u h => by
  by_cases q : a = p
  · subst q
    rw [upd_same] at h ⊢
    exact h
  · rw [upd_ne q] at h ⊢
    exact e a u h
/-- a new thing in the base too .. -/
theorem Wb.up {Hb H : Hp} {d p : Addr} {ks : List Str} {f : Str → List Str} {rs : Str → Addr} {o : HO} (w : Wb Hb H d ks f rs) (hp : H p = none) : Wb (upd Hb p o) (upd H p o) d ks f rs :=
  ⟨My.Ex.upd2 w.e, by rw [upd_ne (ne_of_none w.hd hp)]; exact w.nd, w.nk, Ex.new hp _ _ w.hd, fun k hk => ⟨by rw [upd_ne (ne_of_none (w.row k hk).2 hp)]; exact (w.row k hk).1, Ex.new hp _ _ (w.row k hk).2⟩, w.inj⟩
/-- .. and no more -/
theorem Wb.down {Hb H : Hp} {d p : Addr} {ks : List Str} {f : Str → List Str} {rs : Str → Addr} {o : HO} (w : Wb (upd Hb p o) H d ks f rs) (hp : Hb p = none) : Wb Hb H d ks f rs :=
  ⟨(Ex.new hp).trans w.e, fresh_back (Ex.new hp) w.nd, w.nk, w.hd, fun k hk => ⟨fresh_back (Ex.new hp) (w.row k hk).1, (w.row k hk).2⟩, w.inj⟩
/-- .. and done -/
def Wd (H : Hp) (d : Addr) (ks : List Str) (f : Str → List Str) : Prop := ∃ rs : Str → Addr, H d = some (.dK (wkv rs ks)) ∧ ∀ k ∈ ks, H (rs k) = some (.lst ((f k).map V.str))
theorem Wb.wd {Hb H : Hp} {d : Addr} {ks : List Str} {f : Str → List Str} {rs : Str → Addr} (w : Wb Hb H d ks f rs) : Wd H d ks f := ⟨rs, w.hd, fun k hk => (w.row k hk).2⟩
theorem Wd.ex {H H' : Hp} {d : Addr} {ks : List Str} {f : Str → List Str} (e : Ex H H') (w : Wd H d ks f) : Wd H' d ks f := by
  obtain ⟨rs, h1, h2⟩ := w
  exact ⟨rs, e _ _ h1, fun k hk => e _ _ (h2 k hk)⟩
theorem Wd.get {H : Hp} {d : Addr} {ks : List Str} {f : Str → List Str} (w : Wd H d ks f) {k : Str} (hk : k ∈ ks) : ∃ r, (∀ H', Ex H H' → DGet H' d (.str k) (some (.ref r))) ∧ H r = some (.lst ((f k).map V.str)) := by
  obtain ⟨rs, h1, h2⟩ := w
  refine ⟨rs k, fun H' e => ?_, h2 k hk⟩
  rw [← wkv_val (rs := rs) hk]
  exact DGet.k (k := kS k) (e _ _ h1)
theorem trues_in {ks : List Str} {k : Str} : (valV (trues ks) (kS k)).isSome = decide (k ∈ ks) := valV_keys (trues_keys ks) k
theorem snoc_cases {α : Type} (l : List α) : l = [] ∨ ∃ L b, l = L ++ [b] := by
  rcases List.eq_nil_or_concat l with h | ⟨L, b, h⟩
  · exact .inl h
  · exact .inr ⟨L, b, by rw [h, List.concat_eq_append]⟩
/-- what stands by a key -/
def grp (key g : Str → Str) (ws : List Str) (p : Str) : List Str := (ws.filter fun x => decide (key x = p)).map g
theorem grp_none {key g : Str → Str} {ws : List Str} {p : Str} (h : ∀ x ∈ ws, key x ≠ p) : grp key g ws p = [] := by
  unfold grp
  rw [List.filter_eq_nil_iff.mpr fun x hx q => h x hx (of_decide_eq_true q)]
  rfl
theorem grp_snoc {key g : Str → Str} {ws : List Str} {z p : Str} : grp key g (ws ++ [z]) p = if p = key z then grp key g ws (key z) ++ [g z] else grp key g ws p := by
  unfold grp
  rw [List.filter_append, List.map_append]
  by_cases h : p = key z
  · subst h
    rw [if_pos rfl, List.filter_cons, if_pos (decide_eq_true rfl)]
    rfl
  · rw [if_neg h, List.filter_cons, if_neg (fun q => h (of_decide_eq_true q).symm)]
    exact List.append_nil _
theorem take_snoc {α : Type} {ws : List α} {i : Nat} {z : α} (h : ws[i]? = some z) : ws.take (i + 1) = ws.take i ++ [z] := by
  rw [List.take_add_one, h]
  rfl
theorem last_at {α β : Type} {f : α → β} {l : List α} {x : α} : ((l ++ [x]).map f)[((l ++ [x]).map f).length - 1]? = some (f x) := by
  rw [List.length_map, List.length_append, List.map_append]
  have e : l.length + [x].length - 1 = (l.map f).length := by rw [List.length_map]; rfl
  rw [e, List.getElem?_append_right (Nat.le_refl _), Nat.sub_self]
  rfl
theorem drop_last {α β : Type} {f : α → β} {l : List α} {x : α} : ((l ++ [x]).map f).dropLast = l.map f := by
  rw [List.map_append]
  exact List.dropLast_concat
/-- x != [] -/
theorem ne_nilS {l : List Str} {x : Str} : (!PyData.eqv (strsL (l ++ [x])) (.list [])) = true := by
  show (!PyData.eqvAll ((l ++ [x]).map .str) (([] : List Str).map .str)) = true
  rw [eqvStrs, decide_eq_false (by simp)]
  rfl
theorem grp_len (key g : Str → Str) (ws : List Str) (p : Str) : (grp key g ws p).length ≤ ws.length := by
  unfold grp
  rw [List.length_map]
  exact List.length_filter_le ..
/-! ### what is come to, as a list -/
noncomputable def rchB (ws : List Str) (p q : Str) : Bool := @decide (Rch (nxts ws) p q) (Classical.propDecidable _)
theorem rchB_iff {ws : List Str} {p q : Str} : rchB ws p q = true ↔ Rch (nxts ws) p q := by
  unfold rchB
  exact @decide_eq_true_iff _ (Classical.propDecidable _)
noncomputable def rchL (ws : List Str) (p : Str) : List Str := (places ws).filter (rchB ws p)
theorem rchL_mem {ws : List Str} {p q : Str} (hp : p ∈ plcs ws) : q ∈ rchL ws p ↔ Rch (nxts ws) p q := by
  unfold rchL
  rw [List.mem_filter, places_mem, rchB_iff]
  exact ⟨fun h => h.2, fun h => ⟨rch_plc hp h, h⟩⟩
theorem rchL_asc (ws : List Str) (p : Str) : Asc (rchL ws p) := List.Pairwise.filter _ (places_asc ws)
theorem rchL_ks {ws ks : List Str} {p : Str} (hp : p ∈ plcs ws) (nd : ks.Nodup) (h : ∀ q, q ∈ ks ↔ Rch (nxts ws) p q) : sortS ks = rchL ws p :=
  asc_ext (sortS_asc nd) (rchL_asc ws p) fun q => by rw [sortS_mem, h q, rchL_mem hp]
/-- not all is come to -/
noncomputable def shy (ws : List Str) (p : Str) : Bool := decide ((rchL ws p).length < (places ws).length)
theorem filter_all {α : Type} {f : α → Bool} : ∀ {l : List α}, ¬ (l.filter f).length < l.length → ∀ x ∈ l, f x = true
  | [], _, _, h => (List.not_mem_nil h).elim
  | y :: l, hn, x, hx => by
    have hle := List.length_filter_le f l
    by_cases hy : f y = true
    · rw [List.filter_cons, if_pos hy, List.length_cons, List.length_cons] at hn
      rcases List.mem_cons.mp hx with rfl | hx
      · exact hy
      · exact filter_all (by omega) x hx
    · rw [List.filter_cons, if_neg hy, List.length_cons] at hn
      omega
theorem shy_no {ws : List Str} {p : Str} (h : shy ws p = false) : ∀ q ∈ plcs ws, Rch (nxts ws) p q := fun q hq => by
  have z := filter_all (of_decide_eq_false h) q (places_mem.mpr hq)
  exact rchB_iff.mp z
theorem shy_of {ws : List Str} {p : Str} (h : ∀ q ∈ plcs ws, Rch (nxts ws) p q) : shy ws p = false := by
  unfold shy rchL
  rw [List.filter_eq_self.mpr fun q hq => rchB_iff.mpr (h q (places_mem.mp hq))]
  exact decide_eq_false (Nat.lt_irrefl _)
/-- the first place from which not all is come to: what is -/
noncomputable def closed (ws : List Str) : Option (List Str) := ((places ws).find? (shy ws)).map (rchL ws)
noncomputable def closedD (ws : List Str) : PyData := match closed ws with
  | none => .none
  | some l => strsT l
theorem closed_none {ws : List Str} : closed ws = none ↔ Hang ws := by
  unfold closed
  rw [Option.map_eq_none_iff, List.find?_eq_none]
  constructor
  · intro h p hp q hq
    exact shy_no (Bool.eq_false_iff.mpr (h p (places_mem.mpr hp))) q hq
  · intro h p hp
    exact Bool.eq_false_iff.mp (shy_of (h p (places_mem.mp hp)))
theorem find_at {α : Type} {f : α → Bool} : ∀ {l : List α} {i : Nat} {p : α}, (∀ x ∈ l.take i, f x = false) → l[i]? = some p → f p = true → l.find? f = some p
  | [], _, _, _, h, _ => by cases h
  | y :: l, 0, p, _, h, hp => by
    obtain rfl := Option.some.inj h
    rw [List.find?_cons, hp]
  | y :: l, i + 1, p, hn, h, hp => by
    rw [List.find?_cons, hn y (List.mem_cons_self ..)]
    exact find_at (fun x hx => hn x (List.mem_cons_of_mem _ hx)) h hp
theorem closedD_some {ws : List Str} {i : Nat} {p : Str} (hn : ∀ x ∈ (places ws).take i, shy ws x = false) (hi : (places ws)[i]? = some p) (hp : shy ws p = true) : closedD ws = strsT (rchL ws p) := by
  unfold closedD closed
  rw [find_at hn hi hp]
  rfl
theorem closedD_none {ws : List Str} (h : ∀ x ∈ places ws, shy ws x = false) : closedD ws = .none := by
  have : closed ws = none := by
    unfold closed
    rw [List.find?_eq_none.mpr fun x hx => Bool.eq_false_iff.mp (h x hx)]
    rfl
  unfold closedD
  rw [this]
theorem closedD_hang {ws : List Str} (h : Hang ws) : closedD ws = .none := by
  unfold closedD
  rw [closed_none.mpr h]
theorem closedD_not {ws : List Str} (h : ¬ Hang ws) : ∃ l, closedD ws = strsT l := by
  unfold closedD
  cases e : closed ws with
  | none => exact absurd (closed_none.mp e) h
  | some l => exact ⟨l, rfl⟩
end My

/-! comprehensions over texts; windows left out -/
namespace My
open PySem PySem.Spec PyProof.Rows L2 Evl
/-- promises a new list of texts -/
def NewL (ws : List Str) (H : Hp) (Q : VK) : Prop := ∀ a H', Ex H H' → H a = none → H' a = some (.lst (ws.map V.str)) → Q (.ref a) H'
def atS (ws : List Str) (i : Nat) : Str := ws.getD i (tx [])
theorem atS_of {ws : List Str} {i : Nat} {z : Str} (h : ws[i]? = some z) : atS ws i = z := by
  unfold atS
  rw [List.getD_eq_getElem?_getD, h]
  rfl
theorem range_atS (ws : List Str) : (List.range ws.length).map (atS ws) = ws := by
  apply List.ext_getElem
  · simp
  · intro i h1 h2
    rw [List.getElem_map, List.getElem_range]
    exact atS_of (List.getElem?_eq_getElem h2)
theorem givenS (ws : List Str) (p : Str → Bool) (F : Str → PyData) : givenD ws.length (fun i => p (atS ws i)) (fun i => F (atS ws i)) = (ws.filter p).map F := by
  unfold givenD
  have e : (List.range ws.length).filter (fun i => p (atS ws i)) = (List.range ws.length).filter (p ∘ atS ws) := rfl
  have e2 : (fun i => F (atS ws i)) = F ∘ atS ws := rfl
  rw [e, e2, ← List.map_map, ← List.filter_map, range_atS]
section
variable {K : PySem.W.Frag} {H1 : Hp} {g : TG} {tt : TT} {te : TE} {vs : List Nat} {σ : L2.St} {D : Addr} {Qd : Hp → Prop}
abbrev LcsTurn (K : PySem.W.Frag) (H1 : Hp) (ws : List Str) (g : TG) (tt : TT) (te : TE) (vs : List Nat) (σ : L2.St) (p : Str → Bool) (F : Str → PyData) : Prop :=
  ∀ (z : Str) (H2 : Hp) (Y : VK) (Z : Hp → Prop), z ∈ ws → Ex H1 H2 → (p z = true → ∀ y H3, Ex H2 H3 → Dp K H3 y (F z) → Y y H3) → (p z = false → ∀ H3, Ex H2 H3 → Z H3) →
    g (.str z) (wipe σ vs) H2 fun σ2 H3 => wipe σ2 vs = wipe σ vs ∧ tt σ2 H3 fun b H4 => if b = true then te σ2 H4 Y else Z H4
abbrev LcsEnd (K : PySem.W.Frag) (H1 : Hp) (ws : List Str) (p : Str → Bool) (F : Str → PyData) (D : Addr) (Qd : Hp → Prop) : Prop :=
  ∀ H' acc, Ex H1 H' → H' D = some (.lst acc) → DpAll K H' acc ((ws.filter p).map F) → Qd H'
theorem lcs_turn {ws : List Str} {p : Str → Bool} {F : Str → PyData} (hs : LcsTurn K H1 ws g tt te vs σ p F) : LcTurn K H1 (ws.map V.str).length (fun i x _ => (ws.map V.str)[i]? = some x) g tt te vs σ (fun i => p (atS ws i)) (fun i => F (atS ws i)) := by
  intro i x H2 Y Z hi e it hy hn
  obtain ⟨z, hz, rfl⟩ := str_at it
  refine hs z H2 Y Z (List.mem_of_getElem? hz) e (fun h => ?_) (fun h => ?_)
  · rw [← atS_of hz] at h ⊢
    exact hy h
  · rw [← atS_of hz] at h
    exact hn h
theorem lcs_end {ws : List Str} {p : Str → Bool} {F : Str → PyData} (hd : LcsEnd K H1 ws p F D Qd) : LcEnd K H1 (ws.map V.str).length (fun i => p (atS ws i)) (fun i => F (atS ws i)) D Qd := fun H' acc e hp ha => by
  rw [List.length_map, givenS] at ha
  exact hd H' acc e hp ha
theorem lcs_tp {a : Addr} {ws : List Str} (h : SqT K H1 a (ws.map V.str)) (p : Str → Bool) (F : Str → PyData) (np : H1 D = none) (hn : ws.length ≤ 1000000) (nl : ∀ z ∈ ws, noList (F z) = true) (hs : LcsTurn K H1 ws g tt te vs σ p F) (hd : LcsEnd K H1 ws p F D Qd) : LcGo (Itt K a) H1 g tt te vs σ D Qd :=
  lc_tp h _ _ np (by rw [List.length_map]; exact hn) (fun i hi => by
    rw [List.length_map] at hi
    rw [atS_of (List.getElem?_eq_getElem hi)]
    exact nl _ (List.getElem_mem hi)) (lcs_turn hs) (lcs_end hd)
theorem lcs_lst {a : Addr} {ws : List Str} (h : SqL K H1 a (ws.map V.str)) (p : Str → Bool) (F : Str → PyData) (np : H1 D = none) (hn : ws.length ≤ 1000000) (nl : ∀ z ∈ ws, noList (F z) = true) (hs : LcsTurn K H1 ws g tt te vs σ p F) (hd : LcsEnd K H1 ws p F D Qd) : LcGo (Itl K a) H1 g tt te vs σ D Qd :=
  lc_lst h _ _ np (by rw [List.length_map]; exact hn) (fun i hi => by
    rw [List.length_map] at hi
    rw [atS_of (List.getElem?_eq_getElem hi)]
    exact nl _ (List.getElem_mem hi)) (lcs_turn hs) (lcs_end hd)
theorem lcs_sq {a : Addr} {ws : List Str} {Qd : Addr → Hp → Prop} (h : Sq K H1 a (ws.map V.str)) (p : Str → Bool) (F : Str → PyData) (hn : ws.length ≤ 1000000) (nl : ∀ z ∈ ws, noList (F z) = true) (hs : LcsTurn K H1 ws g tt te vs σ p F)
    (hd : ∀ D, H1 D = none → LcsEnd K H1 ws p F D (Qd D)) :
    ((∃ xs, SqL K H1 a xs) ∧ ∀ D, H1 D = none → LcGo (Itl K a) H1 g tt te vs σ D (Qd D)) ∨ ((∃ xs, SqT K H1 a xs) ∧ ∀ D, H1 D = none → LcGo (Itt K a) H1 g tt te vs σ D (Qd D)) :=
  h.elim (fun q => .inl ⟨⟨_, q⟩, fun D np => lcs_lst q p F np hn nl hs (hd D np)⟩) fun q => .inr ⟨⟨_, q⟩, fun D np => lcs_tp q p F np hn nl hs (hd D np)⟩
end
theorem inV_strs (x : Str) (ws : List Str) : inV (.str x) (ws.map V.str) = decide (x ∈ ws) := by
  unfold inV
  rw [List.any_map]
  by_cases h : x ∈ ws
  · rw [decide_eq_true h]
    exact List.any_eq_true.mpr ⟨x, h, by simp [eqV]⟩
  · rw [decide_eq_false h]
    refine Bool.eq_false_iff.mpr fun z => h ?_
    obtain ⟨y, hy, e⟩ := List.any_eq_true.mp z
    have e2 : y = x := by simpa [eqV] using e
    exact e2 ▸ hy
theorem flat_strs (ws : List Str) : (ws.map V.str).all flatV = true := by
  rw [List.all_map]
  exact List.all_eq_true.mpr fun _ _ => rfl
/-- the windows without a lot -/
def minus (ws lot : List Str) : List Str := ws.filter fun x => !decide (x ∈ lot)
theorem minus_mem {ws lot : List Str} {x : Str} : x ∈ minus ws lot ↔ x ∈ ws ∧ x ∉ lot := by
  unfold minus
  rw [List.mem_filter, Bool.not_eq_true', decide_eq_false_iff_not]
theorem minus_len (ws lot : List Str) : (minus ws lot).length ≤ ws.length := List.length_filter_le ..
theorem minus_asc {ws lot : List Str} (h : Asc ws) : Asc (minus ws lot) := List.Pairwise.filter _ h
theorem filter_strs (ws : List Str) (p : Str → Bool) : (ws.filter p).map PyData.str = (ws.filter p).map PyData.str := rfl
/-- a list of bools that all are true -/
theorem bls_all {K : PySem.W.Frag} {H : Hp} {acc : List V} {α : Type} {xs : List α} {f : α → Bool} (h : DpAll K H acc (xs.map fun x => PyData.bool (f x))) : acc = (xs.map f).map V.bl := bls_dpa (by rw [List.map_map]; exact h)
theorem filter_true {α : Type} (xs : List α) : xs.filter (fun _ => true) = xs := List.filter_eq_self.mpr fun _ _ => rfl
/-- x != () -/
theorem ne_nilT (l : List Str) : (!PyData.eqv (strsT l) (.tuple [])) = !decide (l = []) := by
  show (!PyData.eqvAll (l.map .str) (([] : List Str).map .str)) = _
  rw [eqvStrs]
theorem cut_to (x : Str) (k : Nat) : cutS x none (some (k : Int)) = tx ((sg x).take k) := by
  unfold cutS tx sg
  have e1 : HT.sIx x.length 0 none = 0 := rfl
  have e2 : HT.sIx x.length x.length (some (k : Int)) = min k x.length := HT.sIx_nat _ _ _
  rw [e1, e2, List.drop_zero, Nat.sub_zero]
  congr 2
  have hl : x.cps.toList.length = x.length := rfl
  by_cases h : k ≤ x.length
  · rw [Nat.min_eq_left h]
  · rw [Nat.min_eq_right (by omega), List.take_of_length_le (by omega), List.take_of_length_le (by omega)]
theorem cutV_to (xs : List V) (k : Nat) : cutV xs none (some (k : Int)) = xs.take k := by
  unfold cutV
  have e1 : HT.sIx xs.length 0 none = 0 := rfl
  have e2 : HT.sIx xs.length xs.length (some (k : Int)) = min k xs.length := HT.sIx_nat _ _ _
  rw [e1, e2, List.drop_zero, Nat.sub_zero]
  by_cases h : k ≤ xs.length
  · rw [Nat.min_eq_left h]
  · rw [Nat.min_eq_right (by omega), List.take_of_length_le (by omega), List.take_of_length_le (by omega)]
theorem map_eraseIdx {α β : Type} (f : α → β) : ∀ (l : List α) (k : Nat), (l.map f).eraseIdx k = (l.eraseIdx k).map f
  | [], _ => rfl
  | _ :: _, 0 => rfl
  | x :: l, k + 1 => congrArg (f x :: ·) (map_eraseIdx f l k)
/-! ### a ring text's steps -/
def cyc (l : List Nat) (i n : Nat) : List Nat := (List.range n).map fun j => l.getD ((i + j) % l.length) 0
def rnd (n : Nat) (r : Str) : List Str := (List.range r.length).map fun i => tx (cyc (sg r) i n)
def rep (k : Nat) (l : List Nat) : List Nat := (List.replicate k l).flatten
theorem rep_len (k : Nat) (l : List Nat) : (rep k l).length = k * l.length := by
  unfold rep
  rw [List.length_flatten, List.map_replicate, List.sum_replicate_nat]
theorem rep_snoc (k : Nat) (l : List Nat) : rep (k + 1) l = rep k l ++ l := by
  unfold rep
  rw [List.replicate_succ', List.flatten_append]
  simp
theorem rep_get {l : List Nat} : ∀ {k m : Nat}, m < k * l.length → (rep k l)[m]? = some (l.getD (m % l.length) 0)
  | 0, m, h => by omega
  | k + 1, m, h => by
    have e : rep (k + 1) l = l ++ rep k l := by
      unfold rep
      rw [List.replicate_succ, List.flatten_cons]
    have hs : (k + 1) * l.length = k * l.length + l.length := Nat.succ_mul ..
    rw [e]
    by_cases hm : m < l.length
    · rw [List.getElem?_append_left hm, Nat.mod_eq_of_lt hm, List.getElem?_eq_getElem hm, List.getD_eq_getElem?_getD, List.getElem?_eq_getElem hm]
      rfl
    · rw [List.getElem?_append_right (by omega), rep_get (k := k) (by omega)]
      congr 2
      rw [Nat.mod_eq_sub_mod (by omega : m ≥ l.length)]
theorem rep_cut {l : List Nat} {k i n : Nat} (h : i + n ≤ k * l.length) : ((rep k l).drop i).take n = cyc l i n := by
  apply List.ext_getElem?
  intro j
  unfold cyc
  by_cases hj : j < n
  · rw [List.getElem?_take_of_lt hj, List.getElem?_drop, rep_get (by omega), List.getElem?_map, List.getElem?_range hj]
    rfl
  · rw [List.getElem?_eq_none (by rw [List.length_take]; omega), List.getElem?_eq_none (by rw [List.length_map, List.length_range]; omega)]
theorem cyc_len (l : List Nat) (i n : Nat) : (cyc l i n).length = n := by
  unfold cyc
  rw [List.length_map, List.length_range]
theorem rnd_len (n : Nat) (r : Str) : (rnd n r).length = r.length := by
  unfold rnd
  rw [List.length_map, List.length_range]
theorem cyc_mem {l : List Nat} {i n c : Nat} (hl : 0 < l.length) (h : c ∈ cyc l i n) : c ∈ l := by
  obtain ⟨j, _, rfl⟩ := List.mem_map.mp h
  have hm : (i + j) % l.length < l.length := Nat.mod_lt _ hl
  rw [List.getD_eq_getElem?_getD, List.getElem?_eq_getElem hm]
  exact List.getElem_mem hm
theorem rnd_mem {n : Nat} {r x : Str} (h : x ∈ rnd n r) : x.length = n ∧ ∀ c ∈ sg x, c ∈ sg r := by
  obtain ⟨i, hi, rfl⟩ := List.mem_map.mp h
  have hi := List.mem_range.mp hi
  exact ⟨cyc_len .., fun c hc => cyc_mem (by rw [← len_sg]; omega) hc⟩
/-! ### dicts by a function -/
def fkv (f : Str → V) (ks : List Str) : List (Key × V) := ks.map fun k => (kS k, f k)
theorem fkv_keys (f : Str → V) (ks : List Str) : (fkv f ks).map (·.1) = ks.map kS := by
  unfold fkv
  rw [List.map_map]
  rfl
theorem fkv_len (f : Str → V) (ks : List Str) : (fkv f ks).length = ks.length := List.length_map ..
theorem fkv_val {f : Str → V} {k : Str} : ∀ {ks : List Str}, k ∈ ks → valV (fkv f ks) (kS k) = some (f k)
  | z :: ks, h => by
    by_cases e : z = k
    · subst e
      exact valV_pos rfl
    · show valV ((kS z, f z) :: fkv f ks) (kS k) = _
      rw [valV_neg fun q => e (inr_inj.mp q)]
      exact fkv_val ((List.mem_cons.mp h).resolve_left fun q => e q.symm)
theorem fkv_none {f : Str → V} {k : Str} {ks : List Str} (h : k ∉ ks) : valV (fkv f ks) (kS k) = none := valV_none (fkv_keys f ks) h
theorem fkv_in {f : Str → V} {k : Str} {ks : List Str} : (valV (fkv f ks) (kS k)).isSome = decide (k ∈ ks) := valV_keys (fkv_keys f ks) k
theorem fkv_put {f : Str → V} {ks : List Str} {k : Str} {v : V} : putK (fkv f ks) (kS k) v = fkv (fun z => if z = k then v else f z) (addS ks k) := by
  unfold putK
  rw [valV_any, fkv_in]
  by_cases h : k ∈ ks
  · rw [if_pos (decide_eq_true h), addS, if_pos h]
    unfold fkv
    rw [List.map_map]
    refine List.map_congr_left fun z _ => ?_
    show (if kS z = kS k then (kS z, v) else (kS z, f z)) = (kS z, if z = k then v else f z)
    by_cases e : z = k
    · rw [if_pos (inr_inj.mpr e), if_pos e]
    · rw [if_neg fun q => e (inr_inj.mp q), if_neg e]
  · rw [if_neg (by rw [decide_eq_false h]; exact Bool.false_ne_true), addS, if_neg h]
    unfold fkv
    rw [List.map_append]
    congr 1
    · refine List.map_congr_left fun z hz => ?_
      have e : z ≠ k := fun q => h (q ▸ hz)
      show (kS z, f z) = (kS z, if z = k then v else f z)
      rw [if_neg e]
    · show [(kS k, v)] = [(kS k, if k = k then v else f k)]
      rw [if_pos rfl]
/-- how often -/
def cnt (xs : List Str) (s : Str) : Nat := (xs.filter fun y => decide (y = s)).length
theorem cnt_snoc (xs : List Str) (x s : Str) : cnt (xs ++ [x]) s = cnt xs s + (if s = x then 1 else 0) := by
  unfold cnt
  rw [List.filter_append, List.length_append]
  congr 1
  by_cases h : s = x
  · rw [if_pos h, List.filter_cons, if_pos (decide_eq_true h.symm)]
    rfl
  · rw [if_neg h, List.filter_cons, if_neg fun q => h (of_decide_eq_true q).symm]
    rfl
theorem cnt_no {xs : List Str} {s : Str} (h : s ∉ xs) : cnt xs s = 0 := by
  unfold cnt
  have e : (xs.filter fun y => decide (y = s)) = [] := List.filter_eq_nil_iff.mpr fun y hy q => by
    have e2 : y = s := of_decide_eq_true q
    exact h (e2 ▸ hy)
  rw [e]
  rfl
theorem cnt_le (xs : List Str) (s : Str) : cnt xs s ≤ xs.length := List.length_filter_le ..
/-- the dict of a tally -/
def tkv (xs : List Str) : List (Key × V) := fkv (fun s => .int (cnt xs s)) (ded xs)
theorem tkv_snoc (xs : List Str) (x : Str) : putK (tkv xs) (kS x) (.int ((cnt xs x : Int) + 1)) = tkv (xs ++ [x]) := by
  unfold tkv
  rw [fkv_put, ded_snoc]
  congr 1
  funext z
  rw [cnt_snoc]
  by_cases h : z = x
  · rw [if_pos h, if_pos h, h]
    rfl
  · rw [if_neg h, if_neg h]
    rfl
theorem tkv_get (xs : List Str) (x : Str) : (valV (tkv xs) (kS x)).getD (.int 0) = .int (cnt xs x) := by
  unfold tkv
  by_cases h : x ∈ ded xs
  · rw [fkv_val h]
    rfl
  · rw [fkv_none h, cnt_no fun q => h (ded_mem.mpr q)]
    rfl
/-- a sum of two tuples -/
theorem cat_T {K : PySem.W.Frag} {H : Hp} {a b : Addr} {xs ys : List V} {Q : VK} (h1 : SqT K H a xs) (h2 : SqT K H b ys) (hl : xs.length + ys.length ≤ sizeLine) (q : ∀ p H', Ex H H' → SqT K H' p (xs ++ ys) → Q (.ref p) H') : rCatA K (.ref a) (.ref b) H Q := by
  refine ⟨a, b, xs, ys, rfl, rfl, h1, h2, hl, fun e => ?_, fun _ e => ?_, fun _ _ p np => q _ _ (Ex.new np) (SqT.of upd_same)⟩
  · subst e
    exact q _ _ (Ex.refl _) h2
  · subst e
    exact q _ _ (Ex.refl _) (by rw [List.append_nil]; exact h1)
theorem cat_strs {K : PySem.W.Frag} {H : Hp} {a b : Addr} {xs ys : List Str} {Q : VK} (h1 : SqT K H a (xs.map V.str)) (h2 : SqT K H b (ys.map V.str)) (hl : xs.length + ys.length ≤ 1000000) (q : ∀ p H', Ex H H' → SqT K H' p ((xs ++ ys).map V.str) → Q (.ref p) H') : rCatA K (.ref a) (.ref b) H Q :=
  cat_T h1 h2 (by rw [List.length_map, List.length_map]; exact sz_of hl) fun p H' e h => q p H' e (by rw [List.map_append]; exact h)
/-! ### comprehensions over a list of data -/
section
variable {α : Type} [Inhabited α]
def atD (xs : List α) (i : Nat) : α := xs.getD i default
theorem atD_of {xs : List α} {i : Nat} {z : α} (h : xs[i]? = some z) : atD xs i = z := by
  unfold atD
  rw [List.getD_eq_getElem?_getD, h]
  rfl
theorem givenA (xs : List α) (p : α → Bool) (F : α → PyData) : givenD xs.length (fun i => p (atD xs i)) (fun i => F (atD xs i)) = (xs.filter p).map F := by
  unfold givenD
  have e : (List.range xs.length).filter (fun i => p (atD xs i)) = (List.range xs.length).filter (p ∘ atD xs) := rfl
  have e2 : (fun i => F (atD xs i)) = F ∘ atD xs := rfl
  have e3 : (List.range xs.length).map (atD xs) = xs := by
    apply List.ext_getElem
    · simp
    · intro i h1 h2
      rw [List.getElem_map, List.getElem_range]
      exact atD_of (List.getElem?_eq_getElem h2)
  rw [e, e2, ← List.map_map, ← List.filter_map, e3]
variable {K : PySem.W.Frag} {H1 : Hp} {g : TG} {tt : TT} {te : TE} {vs : List Nat} {σ : L2.St} {D : Addr} {Qd : Hp → Prop}
theorem lcd_lst {a : Addr} {acc : List V} {xs : List α} {C : α → PyData} (h : SqL K H1 a acc) (ha : DpAll K H1 acc (xs.map C)) (p : α → Bool) (F : α → PyData) (np : H1 D = none) (hn : xs.length ≤ 1000000) (nl : ∀ z ∈ xs, noList (F z) = true)
    (hs : ∀ (z : α) (v : V) (H2 : Hp) (Y : VK) (Z : Hp → Prop), z ∈ xs → Ex H1 H2 → Dp K H2 v (C z) → (p z = true → ∀ y H3, Ex H2 H3 → Dp K H3 y (F z) → Y y H3) → (p z = false → ∀ H3, Ex H2 H3 → Z H3) →
      g v (wipe σ vs) H2 fun σ2 H3 => wipe σ2 vs = wipe σ vs ∧ tt σ2 H3 fun b H4 => if b = true then te σ2 H4 Y else Z H4)
    (hd : ∀ H' acc, Ex H1 H' → H' D = some (.lst acc) → DpAll K H' acc ((xs.filter p).map F) → Qd H') : LcGo (Itl K a) H1 g tt te vs σ D Qd := by
  have hl : acc.length = xs.length := by rw [dpa_len ha, List.length_map]
  refine lc_lst h (fun i => p (atD xs i)) (fun i => F (atD xs i)) np (by omega) (fun i hi => ?_) (fun i x H2 Y Z hi e it hy hn => ?_) (fun H' acc' e hp hda => ?_)
  · rw [atD_of (List.getElem?_eq_getElem (by omega : i < xs.length))]
    exact nl _ (List.getElem_mem _)
  · obtain ⟨d, hd1, hd2⟩ := dpa_get ha it
    rw [List.getElem?_map] at hd1
    cases hx : xs[i]? with
    | none => rw [hx] at hd1; cases hd1
    | some z =>
      rw [hx] at hd1
      obtain rfl : C z = d := Option.some.inj hd1
      have ez := atD_of hx
      subst ez
      exact hs _ x H2 Y Z (List.mem_of_getElem? hx) e (dp_ex e hd2) hy hn
  · rw [hl, givenA] at hda
    exact hd H' acc' e hp hda
end
end My

/-! webs from behind -/
namespace My
open PySem PySem.Spec PyProof.Rows L2 Evl
theorem sg_rev (x : Str) : sg (revS x) = (sg x).reverse := rfl
theorem rev_rev (x : Str) : revS (revS x) = x := sg_inj (by rw [sg_rev, sg_rev, List.reverse_reverse])
theorem rev_inj {x y : Str} (h : revS x = revS y) : x = y := by rw [← rev_rev x, h, rev_rev]
theorem rev_len (x : Str) : (revS x).length = x.length := by rw [len_sg, sg_rev, List.length_reverse, ← len_sg]
theorem beg_rev (x : Str) : begS (revS x) = revS (endS x) := sg_inj (by
  show ((sg x).reverse).dropLast = ((sg x).drop 1).reverse
  rw [List.drop_one, List.dropLast_reverse])
theorem end_rev (x : Str) : endS (revS x) = revS (begS x) := sg_inj (by
  show ((sg x).reverse).drop 1 = ((sg x).dropLast).reverse
  rw [List.drop_one, List.tail_reverse])
theorem word_rev {x : Str} (h : Word x) : Word (revS x) := fun c hc => h c (List.mem_reverse.mp hc)
abbrev revs (ws : List Str) : List Str := ws.map revS
theorem plcs_revs {ws : List Str} {p : Str} : revS p ∈ plcs (revs ws) ↔ p ∈ plcs ws := by
  rw [plcs_mem, plcs_mem]
  constructor
  · rintro ⟨x, hx, h⟩
    obtain ⟨y, hy, rfl⟩ := List.mem_map.mp hx
    refine ⟨y, hy, ?_⟩
    rw [beg_rev, end_rev] at h
    exact h.elim (fun q => .inr (rev_inj q)) fun q => .inl (rev_inj q)
  · rintro ⟨y, hy, h⟩
    refine ⟨revS y, List.mem_map.mpr ⟨y, hy, rfl⟩, ?_⟩
    rw [beg_rev, end_rev]
    exact h.elim (fun q => .inr (by rw [q])) fun q => .inl (by rw [q])
theorem nxts_revs {ws : List Str} {p q : Str} : revS q ∈ nxts (revs ws) (revS p) ↔ p ∈ nxts ws q := by
  rw [nxts_mem, nxts_mem]
  constructor
  · rintro ⟨x, hx, h1, h2⟩
    obtain ⟨y, hy, rfl⟩ := List.mem_map.mp hx
    rw [beg_rev] at h1
    rw [end_rev] at h2
    exact ⟨y, hy, rev_inj h2, rev_inj h1⟩
  · rintro ⟨y, hy, h1, h2⟩
    exact ⟨revS y, List.mem_map.mpr ⟨y, hy, rfl⟩, by rw [beg_rev, h2], by rw [end_rev, h1]⟩
theorem rch_head {sc : Str → List Str} {a b c : Str} (h : b ∈ sc a) (r : Rch sc b c) : Rch sc a c := Rch.trans (Rch.refl.step h) r
theorem rch_revs1 {ws : List Str} {a : Str} : ∀ {z : Str}, Rch (nxts (revs ws)) (revS a) z → Rch (nxts ws) (revS z) a := by
  intro z h
  induction h with
  | refl =>
    rw [rev_rev]
    exact .refl
  | step h hc ih =>
    rename_i b c
    have e : revS (revS c) ∈ nxts (revs ws) (revS (revS b)) := by rw [rev_rev, rev_rev]; exact hc
    exact rch_head (nxts_revs.mp e) ih
theorem rch_revs {ws : List Str} {a b : Str} : Rch (nxts (revs ws)) (revS a) (revS b) ↔ Rch (nxts ws) b a := by
  constructor
  · intro h
    have z := rch_revs1 h
    rwa [rev_rev] at z
  · intro h
    induction h with
    | refl => exact .refl
    | step h hc ih =>
      rename_i x y
      exact rch_head (nxts_revs.mpr hc) ih
theorem nodup_full {ks l : List Str} (nd : ks.Nodup) (h : ∀ x ∈ ks, x ∈ l) (hl : l.length ≤ ks.length) : ∀ x ∈ l, x ∈ ks := fun x hx => by
  by_cases hk : x ∈ ks
  · exact hk
  · have z := nodup_len (ks := x :: ks) (l := l) (List.nodup_cons.mpr ⟨hk, nd⟩) fun y hy => (List.mem_cons.mp hy).elim (fun e => e ▸ hx) (h y)
    rw [List.length_cons] at z
    omega
theorem nodup_map {f : Str → Str} (hf : ∀ {x y}, f x = f y → x = y) : ∀ {l : List Str}, l.Nodup → (l.map f).Nodup
  | [], _ => List.nodup_nil
  | x :: l, h => by
    obtain ⟨h1, h2⟩ := List.nodup_cons.mp h
    rw [List.map_cons]
    refine List.nodup_cons.mpr ⟨fun q => h1 ?_, nodup_map hf h2⟩
    obtain ⟨y, hy, e⟩ := List.mem_map.mp q
    exact hf e ▸ hy
/-- what the law counts -/
theorem hangs_by {ws ks rks : List Str} {p : Str} (hp : p ∈ plcs ws) (nd : ks.Nodup) (h : ∀ q, q ∈ ks ↔ Rch (nxts ws) p q) (rnd : rks.Nodup) (rh : ∀ q, q ∈ rks ↔ Rch (nxts (revs ws)) (revS p) q) :
    (ks.length = (ded (plcs ws)).length ∧ (ded (plcs ws)).length = rks.length) ↔ Hang ws := by
  have sub : ∀ q ∈ ks, q ∈ ded (plcs ws) := fun q hq => ded_mem.mpr (rch_plc hp ((h q).mp hq))
  have rp : revS p ∈ plcs (revs ws) := plcs_revs.mpr hp
  have rsub : ∀ q ∈ rks.map revS, q ∈ ded (plcs ws) := fun q hq => by
    obtain ⟨y, hy, rfl⟩ := List.mem_map.mp hq
    have z := rch_plc rp ((rh y).mp hy)
    rw [← rev_rev y] at z
    exact ded_mem.mpr (plcs_revs.mp z)
  have rnd2 : (rks.map revS).Nodup := nodup_map rev_inj rnd
  have rl : (rks.map revS).length = rks.length := List.length_map ..
  have back : ∀ q, q ∈ rks.map revS ↔ Rch (nxts ws) q p := fun q => by
    rw [← rch_revs, ← rh]
    constructor
    · intro hq
      obtain ⟨y, hy, rfl⟩ := List.mem_map.mp hq
      rw [rev_rev]
      exact hy
    · intro hq
      exact List.mem_map.mpr ⟨_, hq, rev_rev q⟩
  constructor
  · rintro ⟨e1, e2⟩ a ha b hb
    have f1 := nodup_full nd sub (by omega) b (ded_mem.mpr hb)
    have f2 := nodup_full rnd2 rsub (by omega) a (ded_mem.mpr ha)
    exact ((back a).mp f2).trans ((h b).mp f1)
  · intro hh
    have l1 := nodup_len nd sub
    have l2 := nodup_len rnd2 rsub
    have l3 := nodup_len (ded_nd (plcs ws)) (l := ks) fun q hq => (h q).mpr (hh p hp q (ded_mem.mp hq))
    have l4 := nodup_len (ded_nd (plcs ws)) (l := rks.map revS) fun q hq => (back q).mpr (hh q (ded_mem.mp hq) p hp)
    omega
end My

/-! what may go from a web -/
namespace My
open PySem PySem.Spec PyProof.Rows L2 Evl
/-- all windows have n letters, n at least 2 -/
def Lng (ws : List Str) : Prop := ∃ n, 2 ≤ n ∧ ∀ x ∈ ws, x.length = n
theorem Lng.sub {ws vs : List Str} (h : Lng ws) (s : ∀ x ∈ vs, x ∈ ws) : Lng vs := by
  obtain ⟨n, h1, h2⟩ := h
  exact ⟨n, h1, fun x hx => h2 x (s x hx)⟩
theorem rch_mono {A B : List Str} (s : ∀ x ∈ A, x ∈ B) {a b : Str} (h : Rch (nxts A) a b) : Rch (nxts B) a b := by
  induction h with
  | refl => exact .refl
  | step _ hc ih =>
    obtain ⟨x, hx, h1, h2⟩ := nxts_mem.mp hc
    exact ih.step (nxts_mem.mpr ⟨x, s x hx, h1, h2⟩)
theorem rch_out {ws : List Str} {p q : Str} (h : Rch (nxts ws) p q) (hn : q ≠ p) : ∃ x ∈ ws, begS x = p ∧ endS x ≠ p := by
  induction h with
  | refl => exact absurd rfl hn
  | step hb hc ih =>
    rename_i b c
    by_cases e : b = p
    · subst e
      obtain ⟨x, hx, h1, h2⟩ := nxts_mem.mp hc
      exact ⟨x, hx, h1, by rw [h2]; exact hn⟩
    · exact ih e
theorem rch_in {ws : List Str} {p q : Str} (h : Rch (nxts ws) q p) (hn : q ≠ p) : ∃ x ∈ ws, endS x = p ∧ begS x ≠ p := by
  have key : ∀ {z : Str}, Rch (nxts ws) q z → z = p → ∃ x ∈ ws, endS x = p ∧ begS x ≠ p := by
    intro z h
    induction h with
    | refl => exact fun e => absurd e hn
    | step hb hc ih =>
      rename_i b c
      intro e
      by_cases e2 : b = p
      · exact ih e2
      · obtain ⟨x, hx, h1, h2⟩ := nxts_mem.mp hc
        exact ⟨x, hx, by rw [h2, e], by rw [h1]; exact e2⟩
  exact key h rfl
theorem loop_one {x y p : Str} (hl : 2 ≤ x.length) (hy : y.length = x.length) (h1 : begS x = p) (h2 : endS x = p) (h3 : begS y = p) (h4 : endS y = p) : x = y := by
  have s1 : (sg x).dropLast = sg p := congrArg sg h1
  have s2 : (sg x).drop 1 = sg p := congrArg sg h2
  have s3 : (sg y).dropLast = sg p := congrArg sg h3
  have s4 : (sg y).drop 1 = sg p := congrArg sg h4
  rw [len_sg] at hl hy
  rw [len_sg] at hy
  have key : ∀ {l : List Nat}, 2 ≤ l.length → l.dropLast = sg p → l.drop 1 = sg p → ∃ c, (sg p).head? = some c ∧ l = c :: sg p := by
    intro l hl d1 d2
    match l, hl with
    | a :: b :: r, _ =>
      refine ⟨a, ?_, ?_⟩
      · rw [← d1]
        rfl
      · rw [← d2]
        rfl
  obtain ⟨c, hc, e1⟩ := key hl s1 s2
  obtain ⟨d, hd, e2⟩ := key (by omega) s3 s4
  rw [hc] at hd
  cases hd
  exact sg_inj (e1.trans e2.symm)
theorem minus_sub {ws lot : List Str} : ∀ x ∈ minus ws lot, x ∈ ws := fun x hx => (minus_mem.mp hx).1
theorem plcs_sub {A B : List Str} (s : ∀ x ∈ A, x ∈ B) : ∀ p ∈ plcs A, p ∈ plcs B := fun p hp => by
  obtain ⟨x, hx, h⟩ := plcs_mem.mp hp
  exact plcs_mem.mpr ⟨x, s x hx, h⟩
/-- without one window, all places stand -/
theorem plcs_keep {C : List Str} {e : Str} (hl : Lng C) (hC : Hang C) (hne : minus C [e] ≠ []) : ∀ p ∈ plcs C, p ∈ plcs (minus C [e]) := by
  intro p hp
  by_cases hall : ∀ q ∈ plcs C, q = p
  · obtain ⟨x, hx⟩ := List.exists_mem_of_ne_nil _ hne
    have hxC := minus_sub x hx
    exact plcs_mem.mpr ⟨x, hx, .inl (hall _ (beg_mem hxC)).symm⟩
  · have : ∃ q, q ∈ plcs C ∧ q ≠ p := Classical.byContradiction fun h => hall fun q hq => Classical.byContradiction fun h2 => h ⟨q, hq, h2⟩
    obtain ⟨q, hq, hqp⟩ := this
    obtain ⟨x, hx, h1, h2⟩ := rch_out (hC p hp q hq) hqp
    obtain ⟨y, hy, h3, h4⟩ := rch_in (hC q hq p hp) hqp
    by_cases hxe : x = e
    · have hye : y ≠ e := fun z => h4 (by rw [z, ← hxe]; exact h1)
      exact plcs_mem.mpr ⟨y, minus_mem.mpr ⟨hy, fun z => hye (List.mem_singleton.mp z)⟩, .inr h3.symm⟩
    · exact plcs_mem.mpr ⟨x, minus_mem.mpr ⟨hx, fun z => hxe (List.mem_singleton.mp z)⟩, .inl h1.symm⟩
theorem hang_grow {A B : List Str} (s : ∀ x ∈ A, x ∈ B) (p : ∀ q ∈ plcs B, q ∈ plcs A) (h : Hang A) : Hang B := fun a ha b hb => rch_mono s (h a (p a ha) b (p b hb))
theorem minus_nil (ws : List Str) : minus ws [] = ws := List.filter_eq_self.mpr fun x _ => by
  rw [decide_eq_false (List.not_mem_nil)]
  rfl
theorem minus_snoc (ws R : List Str) (x : Str) : minus ws (R ++ [x]) = minus (minus ws R) [x] := by
  unfold minus
  rw [List.filter_filter]
  refine List.filter_congr fun y _ => ?_
  rw [← Bool.not_or]
  congr 1
  rw [Bool.eq_iff_iff, decide_eq_true_iff, Bool.or_eq_true, decide_eq_true_iff, decide_eq_true_iff, List.mem_append]
  exact or_comm
noncomputable def restF (ws : List Str) (acc : List Str) (x : Str) : List Str := if scB (minus ws (acc ++ [x])) = true then acc ++ [x] else acc
noncomputable def restL (ws : List Str) : List Str := ws.foldl (restF ws) []
/-- behind i windows -/
structure RestInv (ws : List Str) (i : Nat) (acc : List Str) : Prop where
  sub : ∀ x ∈ acc, x ∈ ws.take i
  own : acc = (ws.take i).filter fun x => decide (x ∈ acc)
  sc : Sc (minus ws acc)
  pl : ∀ p ∈ plcs ws, p ∈ plcs (minus ws acc)
  no : ∀ x ∈ ws.take i, x ∉ acc → ∃ b : List Str, (∀ y ∈ b, y ∈ acc) ∧ ¬ Sc (minus ws (b ++ [x]))
theorem restInv_at {ws : List Str} (nd : ws.Nodup) (hl : Lng ws) (h : Sc ws) : ∀ {i : Nat}, i ≤ ws.length → RestInv ws i ((ws.take i).foldl (restF ws) [])
  | 0, _ => ⟨fun x hx => (List.not_mem_nil hx).elim, rfl, by rw [List.take_zero]; show Sc (minus ws []); rw [minus_nil]; exact h, fun p hp => by rw [List.take_zero]; show p ∈ plcs (minus ws []); rw [minus_nil]; exact hp, fun x hx => by rw [List.take_zero] at hx; cases hx⟩
  | i + 1, hi => by
    have hz : ws[i]? = some ws[i] := List.getElem?_eq_getElem (by omega)
    have I := restInv_at nd hl h (i := i) (by omega)
    rw [take_snoc hz, List.foldl_append]
    generalize ws[i] = z at hz
    generalize (ws.take i).foldl (restF ws) [] = acc at I
    have zt : z ∉ ws.take i := fun hm => by
      have e : ws = ws.take i ++ z :: ws.drop (i + 1) := by
        have h1 := (List.take_append_drop i ws).symm
        rw [List.drop_eq_getElem_cons (by omega : i < ws.length)] at h1
        have h2 : ws[i] = z := by
          rw [List.getElem?_eq_getElem (by omega)] at hz
          exact Option.some.inj hz
        rw [h2] at h1
        exact h1
      rw [e] at nd
      exact (List.nodup_append.mp nd).2.2 z hm z (List.mem_cons_self ..) rfl
    have zacc : z ∉ acc := fun hm => zt (I.sub z hm)
    show RestInv ws (i + 1) (restF ws acc z)
    have tk := take_snoc hz
    unfold restF
    split
    · rename_i hs
      have hS := scB_iff.mp hs
      refine ⟨fun x hx => ?_, ?_, hS, fun p hp => ?_, fun x hx hn => ?_⟩
      · rw [tk]
        exact (List.mem_append.mp hx).elim (fun q => List.mem_append_left _ (I.sub x q)) fun q => List.mem_append_right _ q
      · rw [tk, List.filter_append]
        congr 1
        · refine I.own.trans (List.filter_congr fun x hx => ?_)
          rw [decide_eq_decide, List.mem_append]
          exact ⟨.inl, fun q => q.resolve_right fun q => zt (List.mem_singleton.mp q ▸ hx)⟩
        · rw [List.filter_cons, if_pos (decide_eq_true (List.mem_append_right _ (List.mem_singleton.mpr rfl)))]
          rfl
      · rw [minus_snoc]
        rw [minus_snoc] at hS
        exact plcs_keep (hl.sub minus_sub) I.sc.2 hS.1 p (I.pl p hp)
      · rw [tk] at hx
        rcases List.mem_append.mp hx with hx | hx
        · obtain ⟨b, hb1, hb2⟩ := I.no x hx fun q => hn (List.mem_append_left _ q)
          exact ⟨b, fun y hy => List.mem_append_left _ (hb1 y hy), hb2⟩
        · exact absurd (List.mem_append_right _ hx) hn
    · rename_i hs
      refine ⟨fun x hx => by rw [tk]; exact List.mem_append_left _ (I.sub x hx), ?_, I.sc, I.pl, fun x hx hn => ?_⟩
      · rw [tk, List.filter_append, List.filter_cons, if_neg (by rw [decide_eq_false zacc]; exact Bool.false_ne_true), List.filter_nil, List.append_nil]
        exact I.own
      · rw [tk] at hx
        rcases List.mem_append.mp hx with hx | hx
        · exact I.no x hx hn
        · rw [List.mem_singleton.mp hx]
          exact ⟨acc, fun y hy => hy, fun q => hs (scB_iff.mpr q)⟩
theorem asc_nodup {ws : List Str} (h : Asc ws) : ws.Nodup := h.nodup
/-- what rest gives -/
theorem rest_right {ws : List Str} (nd : ws.Nodup) (hl : Lng ws) (h : Sc ws) : restL ws = ws.filter (fun x => decide (x ∈ restL ws)) ∧ Sc (minus ws (restL ws)) ∧ ∀ x ∈ minus ws (restL ws), ¬ Sc (minus (minus ws (restL ws)) [x]) := by
  have I := restInv_at nd hl h (Nat.le_refl ws.length)
  rw [take_len] at I
  have e : ws.foldl (restF ws) [] = restL ws := rfl
  rw [e] at I
  obtain ⟨i1, i2, i3, i4, i5⟩ := I
  rw [take_len] at i2 i5
  refine ⟨i2, i3, fun x hx hS => ?_⟩
  obtain ⟨hx1, hx2⟩ := minus_mem.mp hx
  obtain ⟨b, hb1, hb2⟩ := i5 x hx1 hx2
  apply hb2
  have sub : ∀ y ∈ minus (minus ws (restL ws)) [x], y ∈ minus ws (b ++ [x]) := fun y hy => by
    obtain ⟨h1, h2⟩ := minus_mem.mp hy
    obtain ⟨h3, h4⟩ := minus_mem.mp h1
    exact minus_mem.mpr ⟨h3, fun q => (List.mem_append.mp q).elim (fun q => h4 (hb1 y q)) h2⟩
  refine ⟨fun z => ?_, hang_grow sub (fun p hp => ?_) hS.2⟩
  · obtain ⟨y, hy⟩ := List.exists_mem_of_ne_nil _ hS.1
    have := sub y hy
    rw [z] at this
    cases this
  · exact plcs_keep (hl.sub minus_sub) i3.2 hS.1 p (i4 p (plcs_sub minus_sub p hp))
end My

/-! a well: a list of three ints that a law's draws change. G is the heap without it -/
namespace My
open PySem PySem.Spec PyProof.Rows L2 Evl
structure Wt (w : Addr) (c : Nat) (G H : Hp) : Prop where
  e : Ex G H
  n : G w = none
  h : ∃ (g m : Int) (k : Nat), k ≤ c ∧ H w = some (.lst [.int g, .int m, .int k])
def hide (w : Addr) (H : Hp) : Hp := fun a => if a = w then none else H a
theorem hide_at {w : Addr} {H : Hp} : hide w H w = none := if_pos rfl
theorem hide_ne {w a : Addr} {H : Hp} (h : a ≠ w) : hide w H a = H a := if_neg h
theorem hide_ex {w : Addr} {H : Hp} : Ex (hide w H) H := fun a o h => by
  by_cases e : a = w
  · rw [e, hide_at] at h
    cases h
  · rw [hide_ne e] at h
    exact h
section
variable {w : Addr} {c : Nat} {G H H' : Hp}
theorem Wt.up {d : Nat} (W : Wt w c G H) (h : c ≤ d) : Wt w d G H := by
  obtain ⟨g, m, k, hk, e⟩ := W.h
  exact ⟨W.e, W.n, g, m, k, by omega, e⟩
/-- what a call that leaves the well alone has made: a heap without the well -/
theorem Wt.ex (W : Wt w c G H) (e : Ex H H') : ∃ G', Ex G G' ∧ Wt w c G' H' ∧ G' = hide w H' := by
  obtain ⟨g, m, k, hk, hw⟩ := W.h
  refine ⟨hide w H', fun a o h => ?_, ⟨hide_ex, hide_at, g, m, k, hk, e _ _ hw⟩, rfl⟩
  rw [hide_ne (ne_of_none h W.n)]
  exact e _ _ (W.e _ _ h)
/-- a new thing -/
theorem Wt.new {p : Addr} {o : HO} (W : Wt w c G H) (np : H p = none) : Wt w c (upd G p o) (upd H p o) := by
  obtain ⟨g, m, k, hk, hw⟩ := W.h
  have hne : w ≠ p := ne_of_none hw np
  exact ⟨My.Ex.upd2 W.e, by rw [upd_ne hne]; exact W.n, g, m, k, hk, by rw [upd_ne hne]; exact hw⟩
/-- a change of a thing that is not the well -/
theorem Wt.mut {p : Addr} {o o' : HO} (W : Wt w c G H) (hp : G p = some o) : Wt w c (upd G p o') (upd H p o') := by
  obtain ⟨g, m, k, hk, hw⟩ := W.h
  have hne : w ≠ p := fun e => by
    have n := W.n
    rw [e, hp] at n
    cases n
  exact ⟨My.Ex.upd2 W.e, by rw [upd_ne hne]; exact W.n, g, m, k, hk, by rw [upd_ne hne]; exact hw⟩
theorem Wt.free {p : Addr} (W : Wt w c G H) (np : H p = none) : G p = none := fresh_back W.e np
end
theorem Wt.set {w : Addr} {c d : Nat} {G H : Hp} {g m : Int} {k : Nat} (W : Wt w c G H) (hk : k ≤ d) : Wt w d G (upd H w (.lst [.int g, .int m, .int k])) := ⟨Ex.mut W.e W.n, W.n, g, m, k, hk, upd_same⟩
/-- promises of what draws: some data behind, of which R is true, the well used c times at most -/
def RetW (K : PySem.W.Frag) (w : Addr) (c : Nat) (G : Hp) (R : PyData → Prop) (Q : VK) : Prop := ∀ v d G' H', Ex G G' → Wt w c G' H' → Dp K G' v d → R d → Q v H'
/-- three ints, or not -/
def notW : List PyData → Bool
  | [.int _, .int _, .int _] => false
  | _ => true
section
variable {K : PySem.W.Frag} {H : Hp} {w : Addr} {g m k : Int}
theorem sqT_hide {a : Addr} {xs : List V} (hw : H w = some (.lst [.int g, .int m, .int k])) (h : SqT K H a xs) : SqT K (hide w H) a xs := by
  rcases h with (h | ⟨o, h⟩) | h
  · exact .inl (.inl (by rw [hide_ne (ne_of h hw fun z => nomatch z)]; exact h))
  · exact .inl (.inr ⟨o, by rw [hide_ne (ne_of h hw fun z => nomatch z)]; exact h⟩)
  · exact .inr h
mutual
theorem dp_hide (hw : H w = some (.lst [.int g, .int m, .int k])) : ∀ {v : V} {d : PyData}, noList d = true → Dp K H v d → Dp K (hide w H) v d
  | _, _, _, .non => .non
  | _, _, _, .bl b => .bl b
  | _, _, _, .int i => .int i
  | _, _, _, .str x => .str x
  | _, _, n, .lst h ha => nomatch (show false = true from n)
  | _, _, n, .tup h ha => .tup (sqT_hide hw h) (dpa_hide hw n ha)
theorem dpa_hide (hw : H w = some (.lst [.int g, .int m, .int k])) : ∀ {vs : List V} {ds : List PyData}, noLists ds = true → DpAll K H vs ds → DpAll K (hide w H) vs ds
  | _, _, _, .nil => .nil
  | _, _, n, .cons h t => .cons (dp_hide hw (Bool.and_eq_true_iff.mp n).1 h) (dpa_hide hw (Bool.and_eq_true_iff.mp n).2 t)
end
theorem dpa_3 {xs : List V} {ds : List PyData} (h : DpAll K H xs ds) (n : notW ds = true) : xs ≠ [.int g, .int m, .int k] := by
  rintro rfl
  cases h with
  | cons h1 t => cases h1; cases t with
    | cons h2 t => cases h2; cases t with
      | cons h3 t => cases h3; cases t; exact nomatch n
theorem sqL_hide {a : Addr} {xs : List V} (hw : H w = some (.lst [.int g, .int m, .int k])) (hn : xs ≠ [.int g, .int m, .int k]) (h : SqL K H a xs) : SqL K (hide w H) a xs := by
  rcases h with (h | ⟨o, h⟩) | h
  · exact .inl (.inl (by rw [hide_ne (ne_of h hw fun z => hn (HO.lst.inj z))]; exact h))
  · exact .inl (.inr ⟨o, by rw [hide_ne (ne_of h hw fun z => nomatch z)]; exact h⟩)
  · exact .inr h
/-- data that has lists on top only -/
def topList : PyData → Bool
  | .list ds => noLists ds && notW ds
  | d => noList d
theorem dp_hideT {v : V} {d : PyData} (hw : H w = some (.lst [.int g, .int m, .int k])) (n : topList d = true) (h : Dp K H v d) : Dp K (hide w H) v d := by
  cases h with
  | lst h ha =>
    obtain ⟨n1, n2⟩ := Bool.and_eq_true_iff.mp n
    exact .lst (sqL_hide hw (dpa_3 ha n2) h) (dpa_hide hw n1 ha)
  | tup h ha => exact .tup (sqT_hide hw h) (dpa_hide hw n ha)
  | non => exact .non
  | bl b => exact .bl b
  | int i => exact .int i
  | str x => exact .str x
end
theorem noStrs : ∀ (ws : List Str), noLists (ws.map PyData.str) = true
  | [] => rfl
  | x :: ws => noStrs ws
theorem notW_strs : ∀ (ws : List Str), notW (ws.map PyData.str) = true
  | [] => rfl
  | [_] => rfl
  | [_, _] => rfl
  | [_, _, _] => rfl
  | _ :: _ :: _ :: _ :: _ => rfl
theorem topL (ws : List Str) : topList (strsL ws) = true := by
  show (noLists (ws.map PyData.str) && notW (ws.map PyData.str)) = true
  rw [noStrs, notW_strs]
  rfl
theorem topT (ws : List Str) : topList (strsT ws) = true := noStrs ws
/-- a call that leaves the well alone, its data kept -/
theorem Wt.ret {K : PySem.W.Frag} {w : Addr} {c : Nat} {G H H' : Hp} {v : V} {d : PyData} (W : Wt w c G H) (e : Ex H H') (h : Dp K H' v d) (n : topList d = true) : ∃ G', Ex G G' ∧ Wt w c G' H' ∧ Dp K G' v d := by
  obtain ⟨G', e1, W1, rfl⟩ := W.ex e
  obtain ⟨g, m, k, _, hw⟩ := W1.h
  exact ⟨_, e1, W1, dp_hideT hw n h⟩
/-- a new thing of such a call -/
theorem Wt.newt {w a : Addr} {c : Nat} {G H H' : Hp} {o : HO} (W : Wt w c G H) (e : Ex H H') (na : H a = none) (h : H' a = some o) : ∃ G', Ex G G' ∧ Wt w c G' H' ∧ G' a = some o ∧ G a = none := by
  obtain ⟨G', e1, W1, rfl⟩ := W.ex e
  obtain ⟨g, m, k, _, hw⟩ := W.h
  exact ⟨_, e1, W1, by rw [hide_ne (ne_of_none hw na).symm]; exact h, W.free na⟩
/-! ### enumerate -/
theorem src_enum {K : PySem.W.Frag} {Hb : Hp} {a : Addr} {xs : List V} (h : SqL K Hb a xs) : Src (Ite K a) Hb xs.length (fun i x H => ∃ T y, x = .ref T ∧ H T = some (.tup [.int i, y]) ∧ xs[i]? = some y) :=
  ⟨fun i H2 e hi => ⟨xs, xs[i], ex_l e h, List.getElem?_eq_getElem hi⟩, fun i H2 e hi => ⟨xs, ex_l e h, hi⟩, fun i H2 x H3 e _ y => by
    obtain ⟨T, z, rfl, np, rfl, q⟩ := y
    exact ⟨Ex.new np, T, z, rfl, upd_same, q xs (ex_l e h)⟩⟩
theorem fo_enum {K : PySem.W.Frag} {Hb H : Hp} {a : Addr} {xs : List V} {g : TG} {tb : TS} {Dn : Ends} {σ : L2.St} (h : SqL K Hb a xs) (Pv : Nat → L2.St → Hp → Prop) (h0 : Pv 0 σ H) (hE : ∀ i σ H, Pv i σ H → Ex Hb H)
    (hs : ∀ i y T σ H H2, xs[i]? = some y → Pv i σ H → Ex H H2 → H2 T = some (.tup [.int i, y]) → g (.ref T) σ H2 fun σ2 H3 => tb { Dn with nx := Pv (i + 1), ct := Pv (i + 1), bk := Dn.nx } σ2 H3) (hd : ∀ σ H, Pv xs.length σ H → Dn.nx σ H) :
    SqL K H a xs ∧ FoGo (Ite K a) g tb Dn σ H :=
  ⟨ex_l (hE _ _ _ h0) h, for_src (src_enum h) Pv h0 hE (fun i x σ H H2 _ p e ⟨T, y, ex, hT, hy⟩ => by
    subst ex
    exact hs i y T σ H H2 hy p e hT) hd⟩
/-! ### comprehensions that draw -/
theorem lc_w {K : PySem.W.Frag} {J : It} {G0 H1 : Hp} {n : Nat} {item : Nat → V → Hp → Prop} {w : Addr} {g : TG} {tt : TT} {te : TE} {vs : List Nat} {σ : L2.St} {D : Addr} {Qd : Hp → Prop} (S : Src J G0 n item) (hn : n ≤ 1000000) (c : Nat → Nat) (R : Nat → List PyData → Prop)
    (W0 : Wt w (c 0) G0 H1) (np : H1 D = none) (r0 : R 0 [])
    (hs : ∀ (i : Nat) (x : V) (G2 H2 : Hp) (ds : List PyData) (Y : VK) (Z : Hp → Prop), i < n → Ex G0 G2 → Wt w (c i) G2 H2 → item i x H2 → R i ds →
      (∀ y d G3 H3, Ex G2 G3 → Wt w (c (i + 1)) G3 H3 → Dp K G3 y d → noList d = true → R (i + 1) (ds ++ [d]) → Y y H3) → (∀ G3 H3, Ex G2 G3 → Wt w (c (i + 1)) G3 H3 → R (i + 1) ds → Z H3) →
      g x (wipe σ vs) H2 fun σ2 H3 => wipe σ2 vs = wipe σ vs ∧ tt σ2 H3 fun b H4 => if b = true then te σ2 H4 Y else Z H4)
    (hl : ∀ i ds, R i ds → ds.length ≤ i)
    (hd : ∀ G' H' acc ds, Ex G0 G' → Wt w (c n) G' H' → G' D = some (.lst acc) → DpAll K G' acc ds → noLists ds = true → R n ds → Qd H') :
    LcGo J H1 g tt te vs σ D Qd := by
  have big : 1000000 < sizeLine := by decide
  have gD : G0 D = none := W0.free np
  let Pv : Nat → Hp → Prop := fun i H => ∃ G acc ds, Ex G0 G ∧ Wt w (c i) G H ∧ G D = some (.lst acc) ∧ DpAll K G acc ds ∧ noLists ds = true ∧ R i ds
  refine ⟨fun i m H => m = n - i ∧ i ≤ n ∧ Pv i H, ⟨n, by simp, Nat.zero_le _, upd G0 D (.lst []), [], [], Ex.new gD, W0.new np, upd_same, .nil, rfl, r0⟩, ?_⟩
  rintro i m H ⟨rfl, hi, G, acc, ds, e, W, hD, ha, nls, r⟩
  have eH : Ex G0 H := e.trans W.e
  by_cases hlt : i < n
  · refine .inr ⟨S.go i H eH hlt, Pv (i + 1), fun H' p' => ⟨n - (i + 1), by omega, rfl, hlt, p'⟩, fun x H' y => ?_⟩
    obtain ⟨e2, it⟩ := S.yld i H x H' eH hlt y
    obtain ⟨G2, e3, W2, _⟩ := W.ex e2
    refine hs i x G2 H' ds _ _ hlt (e.trans e3) W2 it r (fun z d G6 H6 e6 W6 hz nd hr => ?_) (fun G5 H5 e5 W5 hr => ?_)
    · have h6 : G6 D = some (.lst acc) := e6 _ _ (e3 _ _ hD)
      have m6 : Mu D G6 (upd G6 D (.lst (acc ++ [z]))) := fun q hq => upd_ne hq
      refine ⟨acc, W6.e _ _ h6, ?_, upd G6 D (.lst (acc ++ [z])), acc ++ [z], ds ++ [d], Ex.mut (e.trans (e3.trans e6)) gD, W6.mut h6, upd_same, ?_, ?_, hr⟩
      · have l1 := dpa_len ha
        have l2 := hl _ _ r
        omega
      · exact dpa_app (dpa_mu m6 h6 nls (dpa_ex (e3.trans e6) ha)) (dpa_one (dp_mu m6 h6 nd hz))
      · exact noLists_app nls (by show (noList d && true) = true; rw [nd]; rfl)
    · exact ⟨G5, acc, ds, e.trans (e3.trans e5), W5, e5 _ _ (e3 _ _ hD), dpa_ex (e3.trans e5) ha, nls, hr⟩
  · obtain rfl : i = n := by omega
    exact .inl ⟨S.stop i H eH (Nat.le_refl _), hd G H acc ds e W hD ha nls r⟩
/-! ### texts of drawn letters -/
theorem join_tx : ∀ (ls : List (List Nat)), Txt.join ("" : Str) (ls.map tx) = tx ls.flatten := by
  intro ls
  rw [TL.join_eq]
  induction ls with
  | nil => rfl
  | cons x ls ih =>
    cases ls with
    | nil =>
      show tx x = tx (x ++ [])
      rw [List.append_nil]
    | cons y r =>
      show tx x ++ ("" : Str) ++ Str.join ("" : Str) ((y :: r).map tx) = _
      rw [ih]
      apply sg_inj
      rw [sg_app, sg_app]
      show x ++ [] ++ (y :: r).flatten = _
      rw [List.append_nil]
      rfl
def one1 (c : Nat) : Str := tx [c]
theorem join_ones1 (l : List Nat) : Txt.join ("" : Str) (l.map one1) = tx l := by
  have e : l.map one1 = (l.map fun c => [c]).map tx := by rw [List.map_map]; rfl
  rw [e, join_tx]
  congr 1
  induction l with
  | nil => rfl
  | cons x l ih =>
    rw [List.map_cons, List.flatten_cons, ih (by rw [List.map_map]; rfl)]
    rfl
theorem lens_ones1 (l : List Nat) : ((l.map one1).map (·.length)).sum = l.length := by
  induction l with
  | nil => rfl
  | cons x l ih =>
    rw [List.map_cons, List.map_cons, List.sum_cons, ih, List.length_cons]
    show 1 + _ = _
    omega
/-- [one_of(well, z) for .. in range(m)] -/
theorem lc_letters {K : PySem.W.Frag} {w : Addr} {c m : Nat} {G H : Hp} {z : Str} {g : TG} {te : TE} {vs : List Nat} {σ : L2.St} {D : Addr} {Qd : Hp → Prop} (W : Wt w c G H) (hm : m ≤ 1000) (hc : c ≤ 100000) (np : H D = none)
    (hs : ∀ (i : Nat) (x : V) (c' : Nat) (G2 H2 : Hp) (Y : VK), Ex G G2 → c' ≤ 1000000 → Wt w c' G2 H2 → (∀ c0 H', c0 ∈ sg z → Wt w (c' + 1) G2 H' → Y (.str (tx [c0])) H') → g x (wipe σ vs) H2 fun σ2 H3 => wipe σ2 vs = wipe σ vs ∧ tYes σ2 H3 fun b H4 => if b = true then te σ2 H4 Y else True)
    (hd : ∀ G' H' (l : List Nat), Ex G G' → Wt w (c + m) G' H' → l.length = m → (∀ a ∈ l, a ∈ sg z) → G' D = some (.lst ((l.map one1).map V.str)) → Qd H') : LcGo (Itr 0 m) H g tYes te vs σ D Qd := by
  refine lc_w (K := K) (G0 := G) src_rng (by omega) (fun i => c + i) (fun i ds => ∃ l : List Nat, ds = (l.map one1).map PyData.str ∧ l.length = i ∧ ∀ a ∈ l, a ∈ sg z) W np ⟨[], rfl, rfl, fun _ h => (List.not_mem_nil h).elim⟩ (fun i x G2 H2 ds Y Z hi e W2 it r hy hn => ?_) (fun i ds ⟨l, hl, hl2, _⟩ => by rw [hl, List.length_map, List.length_map]; omega) (fun G' H' acc ds e W' hD ha nls ⟨l, hl, hl2, hl3⟩ => ?_)
  · obtain ⟨l, rfl, hl2, hl3⟩ := r
    have z := hs i x (c + i) G2 H2 Y e (by omega) W2 fun c0 H' hc0 W3 => hy _ (.str (tx [c0])) G2 H' (Ex.refl _) W3 (.str _) rfl ⟨l ++ [c0], by rw [List.map_append, List.map_append]; rfl, by rw [List.length_append, hl2]; rfl, fun a ha => (List.mem_append.mp ha).elim (hl3 a) fun h => by rw [List.mem_singleton.mp h]; exact hc0⟩
    exact z
  · subst hl
    have hs := strs_dpa ha
    subst hs
    exact hd G' H' l e W' hl2 hl3 hD
end My

/-! an own exception class whose __init__ says super().__init__(text) and keeps its argument in a field -/
namespace My
open PySem PySem.Spec PyProof.Rows L2 Evl
/-- the __init__ of the class at D -/
structure SupF (P : Program) (K : PySem.W.Frag) (D fI : Addr) (params : Arguments) (body : List Stmt) (scope : Scope) (fd : FuncData) : Prop where
  fn : ∃ (oc : Value) (od : Option Addr) (osl : Array (Option Value)) (dV kV doc pm : Value) (an : Option Addr) (cda cc : Addr) (ct : Value) (name qual : Str), fd = PySem.W.ksFn name qual params body scope dV kV doc pm an (.ref cda) ct cc ∧ K.lookup fI = some ⟨oc, od, .func fd, osl⟩ ∧ PySem.W.codeIn K (.ref cda) qual = true ∧
    (∃ (ccl : Value) (cdd : Option Addr) (vs : Array Value) (ccs : Array (Option Value)) (file : Str) (tf : Tok), K.lookup cda = some ⟨ccl, cdd, .fields vs, ccs⟩ ∧ vs[2]? = some (.str file tf) ∧ ((P.main.file : Str) == file) = true) ∧
    ∃ (cl : Value) (cld : Option Addr) (csl : Array (Option Value)), K.lookup cc = some ⟨cl, cld, .cell (some (.ref D)), csl⟩
  clsD : ∃ cdD, PySem.W.clsIn K D = some cdD
  sup : PySem.W.nsIn K mainGlobals "super" = some none
  any : PySem.W.nsIn K cStatics "thirdparty.any" = some none
  top : (P.main.scope.names.lookup ("super" : Str)).isSome = false
  kp : PySem.W.keepIn K (.ref fI) = true
/-- a class over it, without __init__ of its own -/
structure ExF (K : PySem.W.Frag) (D C fI : Addr) (fld : Str) : Prop where
  ox : OexC K C
  mro : PySem.W.mroIn K C (.ref D) = some true
  sp : PySem.W.ks_superIn K C D "__init__" = some (some (.builtin "ValueError.__init__"))
  ve : PySem.W.subIn K (.ref C) (.type "ValueError") = some true
  ini : PySem.W.findIn K (.ref C) "__init__" = some (some (.ref fI))
  fty : PySem.W.typeIn K (.ref fI) = some (.type "function")
  fld : PySem.W.findIn K (.ref C) fld = some none
def sp_init (K : PySem.W.Frag) (D fI : Addr) (fld : Str) : Sp := fun vs H Q _ => ∃ (a C : Addr) (y : V), vs = [.ref a, y] ∧ ExF K D C fI fld ∧ H a = some (exo a C none) ∧ ∀ dx, H dx = none → dx ≠ a → Q .non (upd (upd H dx (exd dx [(fld, y)])) a (exo a C (some dx)))
theorem call_mw {P : Program} {w : World} {A : Around} {E : Value → Shared → Prop} {s : Shared} {K : PySem.W.Frag} {u x C t : Addr} {rest : List Value} {Q : Value → Shared → Prop} (kin : K.In s.heap) (ox : OexC K C)
    (hu : s.heap.get? u = some (PySem.W.kxs_mw "ValueError.__init__" x)) (he : s.heap.get? x = some ({ cls := .ref C, dict := none, data := .fields #[.ref t, .none, .none, .none, .bool false, .none] } : Obj)) (hz : rest.length ≤ sizeLine)
    (fin : ∀ h', (∀ b o, b ≠ x → s.heap.get? b = some o → h'.get? b = some o) → (∃ t', h'.get? x = some ({ cls := .ref C, dict := none, data := .fields #[.ref t', .none, .none, .none, .bool false, .none] } : Obj)) → Q .none { s with heap := h' }) :
    wpAny (model P w) A (call (.ref u) rest) Q E s := by
  obtain ⟨nm, q, N, bs, bm, sn, sub, ab, col, dd, k0, k1, k2, k3, k5, hC, hbm⟩ := ox.cls
  obtain ⟨hp, g, dr, tk, os⟩ := s
  have tst : (Value.type "method-wrapper" == Value.type "method" || Value.type "method-wrapper" == Value.type "builtin_function_or_method" || Value.type "method-wrapper" == Value.type "method-wrapper") = true := by decide
  refine wpAny_call (codeAny_of_tree (show wpAny _ A.in1 (callAny (.ref u) ⟨rest, []⟩) _ _ _ from ?_))
  simp only [callAny]
  refine wpAny_bind (wpAny_load hu ?_)
  simp only [PySem.W.kxs_mw, tst, if_true]
  refine PySem.W.KFB.if_so (by decide) (wpAny_bind (PySem.W.check_bound_init PySem.F.excBase_ValueError.toExcCallFacts (kin _ _ hC) he rfl ?_))
  refine wpAny_bind (wpAny_pure (wpAny_pure ⟨PySem.plainId_quiet PySem.F.excBase_ValueError.init.plain _, codeAny_builtin PySem.F.excBase_ValueError.initEntry ?_⟩))
  exact PySem.W.exc_init_tree (cls := .ref C) (t0 := t) (dv := none) (c2 := .none) (c3 := .none) (b4 := .bool false) he hz fun h' kk e' t' => fin h' kk ⟨_, e'⟩
section
variable {P : Program} {w : World} {K : PySem.W.Frag} {mg : Str → Option Value} {base : Heap} {CX : CXT} {D fI : Addr} {params : Arguments} {scope : Scope} {fd : FuncData} {fld lit : Str} {p0 p1 p2 p3 p4 p5 p6 p7 p8 p9 : Pos} {kk : Nat} {ar : Arg} {more : List Arg}
theorem sup_fn {k : Nat} (S : SupF P K D fI params [.Expr (.Call (.Attribute (.Call (.Name "super" p0) [] [] p1) "__init__" p2) [.Constant (.str lit) kk p3] [] p4) p5, .Assign [.Attribute (.Name "self" p6) fld p7] (.Name "value" p8) p9] scope fd)
    (hp : (params.posonlyargs ++ params.args).head? = some ar) (har : ar.arg = "self") (h1 : scope.names.lookup ("self" : Str) = some .local) (h2 : scope.names.lookup ("value" : Str) = some .local) (h3 : scope.names.lookup ("super" : Str) = some .globalImplicit) (h4 : scope.names.lookup ("__class__" : Str) = some .free)
    {pl : Sem Bool} (hcall : ∀ env : Env, env.scope = scope → eval (.Call (.Attribute (.Call (.Name "super" p0) [] [] p1) "__init__" p2) [.Constant (.str lit) kk p3] [] p4) env = (do
      let ov ← attributeBase (.Call (.Name "super" p0) [] [] p1) "__init__" env (eval (.Call (.Name "super" p0) [] [] p1) env)
      standAt p2.atName
      let (g, first) ← holding [ov] (getMethod ov "__init__" pl)
      callWith p4 g first (backTo p4 (starEach [.Constant (.str lit) kk p3] env)) []))
    (hint : ∀ env : Env, env.scope = scope → interactive env = false) (hsw : ∀ env : Env, env.scope = scope → swapsWith (.Call (.Attribute (.Call (.Name "super" p0) [] [] p1) "__init__" p2) [.Constant (.str lit) kk p3] [] p4) none p5.line env = pure false)
    (hsw2 : ∀ env : Env, env.scope = scope → swapsWith (.Name "value" p8) (some (.Attribute (.Name "self" p6) fld p7)) p9.line env = pure false)
    (hcell : ∀ x ∈ scope.names, x.2 ≠ .cell) (hco : scope.isCoroutine = false) (hgen : scope.isGenerator = false) (hk : scope.kind = .function) :
    FnOk P w K mg base CX (k + 1) fI fd ["self", "value"] (sp_init K D fI fld) := by
  refine ⟨fun vs H Q E h => ?_, fun A outer st H args us vs Q E room e0 bind vals sat => ?_⟩
  · obtain ⟨a, C, y, rfl, _⟩ := h
    rfl
  obtain ⟨a, C, y, rfl, F, ha, q⟩ := sat
  obtain ⟨u1, u, rfl, r1, ry⟩ := vals2 vals
  obtain rfl : u1 = Value.ref a := r1
  obtain ⟨oc, od, osl, dV, kV, doc, pm, an, cda, cc, ct, name, qual, rfl, lk, hcd, ⟨ccl, cdd, vc, ccs, file, tf, lcd, hvc, hfile⟩, cl, cld, csl, lcc⟩ := S.fn
  obtain ⟨cdD, hD⟩ := S.clsD
  have kin : K.In st.heap := e0.mod.kin.keeps fun b o e => (e0.bs b o e).1
  have nolim : st.heap.NoLimit := e0.mod.nolimit.keeps fun b o e => (e0.bs b o e).1
  obtain ⟨mb, hmb, hbb⟩ := e0.mod.blt
  obtain ⟨t1, hx0⟩ := exo_at e0.hok ha
  refine ks_codeAny_call_defAt (binds := [("self", .ref a), ("value", u)]) (by have := room.dp; omega) (kin _ _ lk) rfl nolim (PySem.W.codeRec_of kin hcd) rfl bind hcell ?_ (fun h₀ hns hk0 => ?_) hco hgen hk
  · intro x hx
    rcases List.mem_cons.mp hx with rfl | hx
    · exact h1
    · rw [List.mem_singleton.mp hx]
      exact h2
  · have kin0 : K.In h₀ := fun b o e => hk0 b o (kin b o e)
    have nodbg : ∀ z : Str, z ≠ "__name__" → mb z = bootBuiltins z := hbb
    have glob0 : h₀.Ns mainGlobals mg := e0.mod.glob.keeps fun b o e => hk0 b o (e0.bs b o e).1
    have blt0 : h₀.Ns builtinsNs mb := hmb.keeps fun b o e => hk0 b o (e0.bs b o e).1
    have mgs : mg "super" = none := PySem.W.mg_none_of e0.mod.kin e0.mod.glob S.sup
    obtain ⟨oD, hoD, hdD⟩ : ∃ oD, K.lookup D = some oD ∧ oD.data = .cls cdD := by
      unfold PySem.W.clsIn at hD
      split at hD
      · rename_i c0 d0 cd0 sl0 hoo
        cases hD
        exact ⟨_, hoo, rfl⟩
      · cases hD
    have hx1 := hk0 _ _ hx0
    refine ks_wpAt_execs_cons (ks_wpAt_Expr_any (ks_wpAt_MethodCall (ks_wpAt_super_base h3 h4 (by decide) rfl (kin0 _ _ lk) rfl hp rfl (kin0 _ _ lcd) rfl hvc hfile S.top ?_) (hcall _ rfl)) (hint _ rfl) (hsw _ rfl))
    refine PySem.W.ks_loadName_global hk h3 (PySem.Calls.loadGlobal_builtin glob0 mgs blt0 ((hbb _ (by decide)).trans (by decide +kernel)) ⟨rfl, ?_⟩)
    refine wpAny_loadName_free hk h4 rfl ⟨_, kin0 _ _ lcc, rfl⟩ ?_
    rw [har]
    refine wpAny_loadName_local hk h1 hns rfl ?_
    refine ks_wpAny_isType_cls (kin0 _ _ hoD) hdD ⟨rfl, ?_⟩
    refine ks_wpAny_call_super (kin0 _ _ hoD) hdD hx1 rfl (fun c z => nomatch z) (PySem.W.looks_mroIn kin0 F.mro) (fun h1' e1 k1 => ?_)
    have kin1 : K.In h1' := fun b o e => k1 b o (kin0 b o e)
    have hx2 := k1 _ _ hx1
    have inst : PySem.W.InstAt h1' a _ C none := ⟨hx2, rfl, rfl, trivial⟩
    obtain ⟨cd, hcC, hal⟩ : ∃ cd, PySem.W.clsIn K C = some cd ∧ PySem.W.alongIn K "__init__" ((cd.mro.dropWhile (· != .ref D)).drop 1) = some (some (.builtin "ValueError.__init__")) := by
      have z := F.sp
      unfold PySem.W.ks_superIn at z
      cases hc : PySem.W.clsIn K C with
      | none => rw [hc] at z; cases z
      | some cd => rw [hc] at z; exact ⟨cd, rfl, z⟩
    refine PySem.W.kxs_getMethod PySem.W.kxs_ValueError e1 (PySem.W.looks_opaque kin1 S.any) (l₀ := cd.mro) ((PySem.W.looks_clsIn kin1 hcC).andThen .now) rfl kin1 hal (inst.type.andThen (PySem.W.looks_subIn kin1 F.ve)) (PySem.W.ks_ne kin1 inst hcC) (by decide) ?_
    have k2 : ∀ b o, h1'.get? b = some o → (h1'.push (PySem.W.kxs_mw "ValueError.__init__" a)).get? b = some o := fun b o e => Heap.get?_push_of_some _ e
    have hu2 : (h1'.push (PySem.W.kxs_mw "ValueError.__init__" a)).get? h1'.objs.size = some (PySem.W.kxs_mw "ValueError.__init__" a) := Heap.get?_push_size _ rfl
    have hx3 := k2 _ _ hx2
    have kin2 : K.In (h1'.push (PySem.W.kxs_mw "ValueError.__init__" a)) := fun b o e => k2 b o (kin1 b o e)
    have hns2 := hns.keeps fun b o e => k2 b o (k1 b o e)
    have kAll : ∀ b o, st.heap.get? b = some o → (h1'.push (PySem.W.kxs_mw "ValueError.__init__" a)).get? b = some o := fun b o e => k2 b o (k1 b o (hk0 b o e))
    refine PySem.W.kxs_callWith (i := "ValueError.__init__") (x := a) (by rfl) (PySem.Calls.evalArgs_plain (PySem.Calls.spliced_cons (wpAny_Constant_str (k := kk) (pos := p3) (PySem.Calls.spliced_nil ⟨hu2, ?_⟩))))
    generalize h1'.push (PySem.W.kxs_mw "ValueError.__init__" a) = h2' at *
    refine call_mw kin2 F.ox hu2 hx3 (by show 1 ≤ sizeLine; decide) (fun h3 k3 hx4 => ?_)
    obtain ⟨t4, hx4⟩ := hx4
    have aL : st.heap.objs.size ≠ a := (Nat.ne_of_lt (Heap.lt_size hx0)).symm
    obtain ⟨nm, qn, N, bs, bm, sn, sub, ab, col, dd, g0, g1, g2, g3, g5, hC, hbm⟩ := F.ox.cls
    have hcl : PySem.W.clsIn K C = some { name := nm, bases := bs, mro := .ref C :: bm, ns := N, qualname := qn, hasDict := true, slotNames := sn, subclasses := sub, abstract := ab, collection := col, hasDel := false } := by unfold PySem.W.clsIn; rw [hC] <;> rfl
    have aK : ∀ b o, K.lookup b = some o → b ≠ a := fun b o e z => by
      have z1 := kin b o e
      rw [z, hx0] at z1
      have z2 := e0.mod.kin b o e
      have z3 := (e0.bs b o z2).2
      rw [z, ha] at z3
      cases z3
    have kin3 : K.In h3 := fun b o e => k3 b o (aK b o e) (kin2 b o e)
    obtain ⟨oL, esL, epL, hoL, rL⟩ := hns2
    have hns3 : h3.Ns st.heap.objs.size _ := ⟨oL, esL, epL, k3 _ _ aL hoL, rL⟩
    refine ks_wpAt_execs_cons (ks_wpAt_Assign_Attr (wpAt_of_wpAny (wpAny_Name (wpAny_loadName_local hk h2 hns3 rfl (wpAny_Name (wpAny_loadName_local hk h1 hns3 rfl ?_) (by decide))) (by decide))) (hsw2 _ rfl))
    refine PySem.W.set_plain kin3 (od := none) ⟨hx4, rfl, rfl, trivial⟩ F.ox.sa ?_
    refine PySem.HandSPX.exc_osa kin3 hx4 hcl (show PySem.HandSPX.refsVE (.ref C :: bm) = true from hbm) rfl F.fld (fun h5 tk5 dx k5 dn dne hx5 hn5 => ?_)
    refine wpAt_of_wpAny (wpAny_execs_nil ?_)
    have kEnd : ∀ b o, b ≠ a → st.heap.get? b = some o → h5.get? b = some o := fun b o hb e => k5 b o hb (k3 b o hb (kAll b o e))
    have dx0 : st.heap.get? dx = none := by
      cases z : st.heap.get? dx with
      | none => rfl
      | some o => exact absurd (Heap.lt_size (k3 dx o dne (kAll dx o z))) (Nat.not_lt.mpr dn)
    have Hdx : H dx = none := e0.hok.gone dx0
    have offA : ∀ {b : Addr}, H b = none → b ≠ a := fun {b} n z => by
      rw [z, ha] at n
      cases n
    have offD : ∀ {b : Addr} {o : Obj}, st.heap.get? b = some o → b ≠ dx := fun {b o} e z => by
      rw [z, dx0] at e
      cases e
    have fin : ∀ s' : Shared, s'.heap = h5 → s'.gens = st.gens → s'.os = st.os → CE outer P w H st Q .none s' := fun s' es eg eo => ?_
    · exact fin _ rfl rfl rfl
    refine ⟨V.non, upd (upd H dx (exd dx [(fld, y)])) a (exo a C (some dx)), eo, by rw [eg]; exact e0.bare, ?_, ?_, rfl, q dx Hdx dne⟩
    · rw [es]
      exact ⟨fun b o e n _ _ => kEnd b o (offA n) e, fun b o e n _ _ => ⟨o.slots, kEnd b o (offA n) e⟩, fun b o e n _ => by rw [upd_ne (offA n), upd_ne (offD e)]; exact n,
      fun b o e _ => (Decidable.em (b = a)).elim (fun z => z ▸ ⟨_, hx5⟩) fun z => ⟨o, kEnd b o z e⟩, fun b xs e => by rw [upd_ne (L2.at_ne ha e exo_tup), upd_ne (ne_of_none e Hdx)]; exact e, fun b o v e => by rw [upd_ne (L2.at_ne ha e exo_frz), upd_ne (ne_of_none e Hdx)]; exact e,
      fun b ps e => ⟨#[], by rw [upd_ne (L2.at_ne ha e exo_tbl), upd_ne (ne_of_none e Hdx), e]; simp⟩⟩
    rw [es]
    intro b o e
    by_cases hb : b = a
    · subst hb
      rw [upd_same] at e
      cases e
      exact exo_ok hx5
    · rw [upd_ne hb] at e
      by_cases hd : b = dx
      · subst hd
        rw [upd_same] at e
        cases e
        exact exd_ok hn5 (relO_put (fs := []) ry fun g => True.intro)
      · rw [upd_ne hd] at e
        have offO : ∀ {c : Addr}, H c = some (.own b) → c ≠ a := fun {c} hc => L2.at_ne ha hc exo_own
        exact (e0.hok b o e).stay (fun c v hc z => kEnd c v (hc.elim (fun z2 => by rw [z2]; exact hb) offO) z) (fun c hc => by rw [upd_ne (offO hc), upd_ne (ne_of_none hc Hdx)]; exact hc) (fun c xs hc => by rw [upd_ne (L2.at_ne ha hc exo_tup), upd_ne (ne_of_none hc Hdx)]; exact hc)
end
end My

/-! an exception that is caught, kept as a value, its field read behind the suite -/
namespace My
open PySem PySem.Spec PyProof.Rows L2 Evl
/-- at a: a caught exception of the class cls, its dict at d -/
def exK (a : Addr) (cls : Value) (d : Option Addr) : HO := .ext fun h => ∃ (oe : Obj) (vs : Array Value), h.get? a = some oe ∧ Zc cls d oe ∧ oe.data = .fields vs
theorem exK_ok {P : Program} {w : World} {H : Hp} {h : Heap} {a : Addr} {cls : Value} {d : Option Addr} {oe : Obj} {vs : Array Value} (e : h.get? a = some oe) (z : Zc cls d oe) (f : oe.data = .fields vs) : ObjOk P w H h a (exK a cls d) :=
  ⟨⟨oe, vs, e, z, f⟩, ⟨oe, e⟩, fun g1 g2 ⟨o, us, e1, z1, f1⟩ k => ⟨o, us, k _ e1, z1, f1⟩⟩
theorem exK_at {P : Program} {w : World} {H : Hp} {h : Heap} {a : Addr} {cls : Value} {d : Option Addr} (hok : HOk P w H h) (e : H a = some (exK a cls d)) : ∃ (oe : Obj) (vs : Array Value), h.get? a = some oe ∧ Zc cls d oe ∧ oe.data = .fields vs := by
  have z : ObjOk P w H h a (.ext fun h => ∃ (oe : Obj) (vs : Array Value), h.get? a = some oe ∧ Zc cls d oe ∧ oe.data = .fields vs) := hok a _ e
  exact z.1
section
variable {X : Cx} {pins : List (Addr × Obj)} {σ : L2.St} {H : Hp} {s : Shared}
/-- it is tracked from here on -/
theorem inv_keep {a : Addr} {oe : Obj} {vs : Array Value} {cls : Value} {d : Option Addr} (I : Inv X ((a, oe) :: pins) σ H s) (z : Zc cls d oe) (f : oe.data = .fields vs) (new : X.s_0.heap.get? a = none) (apart : ∀ p ∈ X.pn ++ pins, p.1 ≠ a) :
    Inv X pins σ (upd H a (exK a cls d)) s := by
  obtain ⟨at1, na, nL, nF, _⟩ := I.pin (a, oe) (List.mem_append_right _ (List.mem_cons_self ..))
  have off : ∀ {b : Addr} {o : HO}, H b = some o → b ≠ a := fun e => ne_of_none e na
  refine ⟨I.ok, I.os, I.bare, ⟨I.base.keep, I.base.slot, fun b o e n hx => ?_, I.base.there, fun b xs e => ?_, fun b o v e => ?_, fun b ps e => ?_⟩, I.loc, I.cell, ?_, fun x c e => ?_, fun p hp => ?_, fun b o e => ?_, I.len⟩
  · rw [upd_ne fun q => by rw [q, new] at e; cases e]
    exact I.base.free b o e n hx
  · have q := I.base.tups b xs e
    rw [upd_ne (off q)]
    exact q
  · have q := I.base.frzs b o v e
    rw [upd_ne (off q)]
    exact q
  · obtain ⟨more, q⟩ := I.base.tbls b ps e
    exact ⟨more, by rw [upd_ne (off q)]; exact q⟩
  · rw [upd_ne nL.symm]
    exact I.free
  · have hc := I.freeC x c e
    have ca : c ≠ a := fun q => by
      obtain ⟨v, o, e1, e2⟩ := I.cell x c e
      rw [q, at1] at e1
      cases e1
      rw [f] at e2
      cases e2
    rw [upd_ne ca]
    exact hc
  · have hp2 : p ∈ X.pn ++ (a, oe) :: pins := (List.mem_append.mp hp).elim (fun q => List.mem_append_left _ q) fun q => List.mem_append_right _ (List.mem_cons_of_mem _ q)
    obtain ⟨h1, h2, h3⟩ := I.pin p hp2
    exact ⟨h1, by rw [upd_ne (apart p hp)]; exact h2, h3⟩
  · by_cases q : b = a
    · subst q
      rw [upd_same] at e
      cases e
      exact exK_ok at1 z f
    · rw [upd_ne q] at e
      exact (I.hok b o e).stay (fun c v _ y => y) (fun c y => by rw [upd_ne (off y)]; exact y) fun c xs y => by rw [upd_ne (off y)]; exact y
end
/-- what 'except x as n: suite' wishes of an exception of the body, the exception kept -/
def wKp (K : PySem.W.Frag) (c : Value) (i : Nat) (ts : Addr → Value → Option Addr → TS) (Wout : WX) (D : Ends) : WX := fun cls d σ H =>
  ∃ b, PySem.W.exmOne K cls c = some b ∧ (b = false → Wout cls d σ H) ∧ (b = true → ∀ a, H a = none → ts a cls d { nx := fun σ1 H1 => D.nx (σ1.set i none) (upd H1 a (exK a cls d)), rt := fun v H1 => D.rt v (upd H1 a (exK a cls d)), bk := fun σ1 H1 => D.bk (σ1.set i none) (upd H1 a (exK a cls d)), ct := fun σ1 H1 => D.ct (σ1.set i none) (upd H1 a (exK a cls d)) } (σ.set i (some (.ref a))) H)
section
variable {X : Cx} {x n : Str} {c : Value} {i : Nat} {body suite : List Stmt} {b0 : Stmt} {np pos pos2 : Pos} {tb : WX → TS} {ts : Addr → Value → Option Addr → TS} {Wout : WX}
theorem ps_try_keep (stk : X.stack = X.env :: X.outer) (frm : X.env.frame = some X.env.locals) (nd : X.N.Nodup) (hi : X.N[i]? = some n) (loc : X.env.kindOf n = some .local) (nex : X.ex = []) (hc : Names X x c) (tk : Takes X Wout)
    (hb : ∀ (W : WX) (pn : List (Addr × Obj)) (xe : Value → Shared → Prop), Takes (X.tr pn xe) W → PassesOwn (model X.prog X.w) X.A X.env xe → PSs (X.tr pn xe) body (tb W))
    (su : ∀ (a : Addr) (oe : Obj) (cls : Value) (d : Option Addr) (pn : List (Addr × Obj)), Zc cls d oe → (∃ vs, oe.data = .fields vs) → PSs (X.suite a ((a, oe) :: pn)) (b0 :: suite) (ts a cls d)) :
    PS X (.Try body [.ExceptHandler (some (.Name x np)) (some n) (b0 :: suite) pos2] [] [] pos) (fun D σ H => tb (wKp X.K c i ts Wout D) D σ H) := by
  constructor
  intro pins s σ H D I sat
  have okX := I.ok
  have frames : X.A.frames = some (X.env :: X.outer) := by rw [okX.frames, stk]
  have run := (hb (wKp X.K c i ts Wout D) (X.pn ++ pins) (fun e s1 => wpAny (model X.prog X.w) X.A (noteFrame e X.env) (fun _ s2 => wpAny (model X.prog X.w) X.A (setFlight e none) (fun _ s3 => wpAny (model X.prog X.w) X.A (handleBy e X.env [.ExceptHandler (some (.Name x np)) (some n) (b0 :: suite) pos2]) (SP X pins D) X.xe s3) X.xe s2) X.xe s1) (fun u s' air => ?_) PassesOwn.looking).run [] s σ H D (I.toTry _) sat
  · refine wpAny_Try_except (wpAny_mono run (fun f s1 got => ?_) fun _ _ z => z)
    cases f with
    | next =>
      obtain ⟨σ1, H1, J1, q1⟩ := got
      exact wpAny_execs_nil ⟨σ1, H1, J1.ofTry okX, q1⟩
    | ret u =>
      obtain ⟨v, σ1, H1, J1, rv, q1⟩ := got
      exact ⟨v, σ1, H1, J1.ofTry okX, rv, q1⟩
    | brk =>
      obtain ⟨σ1, H1, J1, q1⟩ := got
      exact ⟨σ1, H1, J1.ofTry okX, q1⟩
    | cont =>
      obtain ⟨σ1, H1, J1, q1⟩ := got
      exact ⟨σ1, H1, J1.ofTry okX, q1⟩
  obtain ⟨a, B, sI, pins1, σ1, H1, cls, d, rfl, JI, below, upTo, sky, na, eos, bare, b, hexm, hout, hin⟩ := air
  have J0 : Inv X pins σ1 H1 sI := JI.ofTry okX
  have sky2 : Sky B (X.env :: X.outer) a (Zc cls d) X.env.locals s'.heap := by rw [← stk]; exact sky
  show wpAny (model X.prog X.w) X.A (noteFrame (.ref a) X.env) _ _ _
  refine Sky.land Zc.steady frames frm sky2 fun g3 fly3 up3 => ?_
  have J3 : Inv X pins σ1 H1 ⟨g3, s'.gens, s'.drawn, s'.toks, s'.os⟩ := J0.landed below fly3.1 (upTo.trans up3) eos bare
  obtain ⟨o3, v3, at3, z3, f3⟩ := fly3.there
  have noFr : a ∉ frs (X.env :: X.outer) := fun hm => by
    obtain ⟨_, o', e', hnf⟩ := fly3.2.2.1.mem hm
    rw [at3] at e'
    cases e'
    exact hnf _ f3
  have notL : a ≠ X.env.locals := fun z => noFr (List.mem_filterMap.mpr ⟨X.env, List.mem_cons_self, by rw [frm, z]⟩)
  have notF : a ∉ X.fs := fun hm => by
    obtain ⟨e, he, q⟩ := List.mem_filterMap.mp hm
    exact noFr (List.mem_filterMap.mpr ⟨e, List.mem_cons_of_mem _ he, q⟩)
  have noB : B.get? a = none := fly3.2.1
  have noI : sI.heap.get? a = none := by
    cases z : sI.heap.get? a with
    | none => rfl
    | some o =>
      have y := below a o z (by rw [stk]; exact noFr)
      rw [noB] at y
      cases y
  have no0 : X.s_0.heap.get? a = none := by
    cases z : X.s_0.heap.get? a with
    | none => rfl
    | some o =>
      obtain ⟨o', y⟩ := J0.base.there a o z (by rw [nex]; exact List.not_mem_nil)
      rw [noI] at y
      cases y
  have apart : ∀ p ∈ X.pn ++ pins, p.1 ≠ a := fun p hp z => by
    have y := (J0.pin p hp).1
    rw [z, noI] at y
    cases y
  have S3 := J3.suite at3 f3 na notL notF
  refine wpAny_handleBy_cons (codeAny_handlers_test ?_) (fun q => by cases q)
  have clsOf : PySem.W.Looks (model X.prog X.w) g3 (typeOf (.ref a)) cls := fun A Q E s k q => wpAny_typeOf_ref (k _ _ at3) (by rw [z3.1]; exact q)
  have match1 := PySem.W.exm_one (M := model X.prog X.w) (J3.kIn) clsOf hexm
  have named : ∀ {Q : Value → Shared → Prop} {E : Value → Shared → Prop}, Q c ⟨g3, s'.gens, s'.drawn, s'.toks, s'.os⟩ → wpAny (model X.prog X.w) (X.A.mark (some (.ref a))) (eval (.Name x np) X.env) Q E ⟨g3, s'.gens, s'.drawn, s'.toks, s'.os⟩ := fun {Q E} q => by
    obtain ⟨hg, hdb, hm | ⟨hm, hv, hn⟩⟩ := hc
    · exact ld_glob (X := X.suite a ((a, o3) :: (X.pn ++ pins))) S3 hg hm q hdb
    · exact ld_blt (X := X.suite a ((a, o3) :: (X.pn ++ pins))) S3 hg hm hv q hn hdb
  refine named (match1.here ?_)
  cases b with
  | false =>
    show wpAny _ X.A (handleBy (.ref a) X.env []) _ _ _
    refine wpAny_handleBy_nil ?_
    obtain ⟨_, _, _, oe, vs, T, oT, _, he, _, hd, hT, _⟩ := id fly3
    unfold PySem.passOn
    refine wpAny_bind (wpAny_field he hd hT ?_)
    rw [if_neg (show ¬ ((Value.ref T == Value.none) = true) from by simp)]
    have onward : wpAny (model X.prog X.w) X.A (setFlight (.ref a) X.env.frame) (fun _ s4 => wpAny (model X.prog X.w) X.A (throw (.ref a) : Sem Flow) (SP X pins D) X.xe s4) X.xe ⟨g3, s'.gens, s'.drawn, s'.toks, s'.os⟩ := by
      rw [frm]
      exact HandSPX.setFlight_upZ fly3 fun g4 held4 up4 => wpAny_throw (tk _ _ ⟨a, B, sI, pins, σ1, H1, cls, d, rfl, J0, below, (upTo.trans up3).trans up4, .inr (.inr (by rw [stk]; exact held4)), na, eos, bare, hout rfl⟩)
    first
      | exact wpAny_bind onward
      | exact wpAny_bind (wpAny_pure (wpAny_bind onward))
  | true =>
    refine codeAny_handlers_suite_as (HandSPX.lands_againZ fly3 fun g4 fly4 up4 => ?_)
    have J4 : Inv X pins σ1 H1 ⟨g4, s'.gens, s'.drawn, s'.toks, s'.os⟩ := J0.landed below fly4.1 ((upTo.trans up3).trans up4) eos bare
    obtain ⟨o4, v4, at4, z4, f4⟩ := fly4.there
    have S4 := J4.suite at4 f4 na notL notF
    refine store_ok (X := X.suite a ((a, o4) :: (X.pn ++ pins))) (v := .ref a) S4 nd hi (.inl loc) rfl (fun s5 S5 => ?_) (.inr loc)
    have stop : ∀ {σ6 : L2.St} {H6 : Hp} {s6 : Shared} {Q : Shared → Prop}, Inv (X.suite a ((a, o4) :: (X.pn ++ pins))) [] σ6 H6 s6 → (∀ s7, Inv X pins (σ6.set i none) (upd H6 a (exK a cls d)) s7 → Q s7) → wpAny (model X.prog X.w) X.A (do bindName X.env n .none; unbindBehindTheSuite X.env n pos2) (fun _ s7 => Q s7) X.xe s6 := fun {σ6 H6 s6 Q} S6 hq => by
      have here := S6.pin (a, o4) (List.mem_append_left _ (List.mem_cons_self ..))
      have J6 : Inv X ((a, o4) :: pins) σ6 H6 s6 := (S6.unsuite okX).pins_of fun p hp => (List.mem_cons.mp hp).elim (fun e => by rw [e]; exact here) fun h => (S6.unsuite okX).pin p (List.mem_append_right _ h)
      exact gone_ok J6 nd hi loc fun s7 J7 => hq s7 (inv_keep J7 z4 f4 no0 apart)
    refine wpAny_mono ((su a o4 cls d (X.pn ++ pins) z4 ⟨_, f4⟩).run [] s5 _ H1 _ S5 (hin rfl a na)) (fun f s6 got => ?_) (fun _ _ z => z.elim)
    cases f with
    | next =>
      obtain ⟨σ6, H6, S6, q6⟩ := got
      exact stop S6 fun s7 J7 => ⟨_, _, J7, q6⟩
    | ret u =>
      obtain ⟨v6, σ6, H6, S6, r6, q6⟩ := got
      exact stop S6 fun s7 J7 => ⟨_, _, _, J7, r6, q6⟩
    | brk =>
      obtain ⟨σ6, H6, S6, q6⟩ := got
      exact stop S6 fun s7 J7 => ⟨_, _, J7, q6⟩
    | cont =>
      obtain ⟨σ6, H6, S6, q6⟩ := got
      exact stop S6 fun s7 J7 => ⟨_, _, J7, q6⟩
end
/-- an exception that nothing wishes -/
theorem takesF {X : Cx} : Takes X (fun _ _ _ _ => False) := fun u s1 air => by
  obtain ⟨_, _, _, _, _, _, _, _, _, _, _, _, _, _, _, _, bad⟩ := air
  exact bad.elim
section
variable {X : Cx} {CX : CXT} {k : Nat} {x : Str} {ps : List Str} {sp : Sp} {E : L2.St → XK} {p pos : Pos} {e : Expr} {es : List Expr} {t : TA}
theorem run_gS {f : Addr} {fd : FuncData} {pins : List (Addr × Obj)} {σ : L2.St} {H : Hp} {st : Shared} {Q : VK} {us : List Value} {vs : List V} (F : FnG X.prog X.w X.K X.mg X.base CX k f fd ps sp) (hg : X.A.guards = some []) (hr : Room k X.A) (hb : Binds X.K fd ps [])
    (hx : PassesAt CX X σ (E σ)) (I : Inv X pins σ H st) (r : Vals vs us) (h : sp vs H Q (E σ)) : wpAny (model X.prog X.w) X.A (call (.ref f) us) (EP X pins σ Q) X.xe st := by
  have hn : (us ++ []).length = ps.length := by rw [List.append_nil, ← r.length]; exact F.len _ _ _ _ h
  have hbt : BindsTo st fd ⟨us, []⟩ (ps.zip us) := by
    have z := hb st us I.kIn hn
    rw [List.append_nil] at z
    exact z
  refine wpAny_call (codeAny_mono (F.run X.A X.stack st H ⟨us, []⟩ us vs Q (E σ) hg hr I.env0 hbt r h) fun res s2 hq => ?_)
  cases res with
  | error err => exact hx pins H st err s2 I hq
  | ok fl =>
    cases fl with
    | ret u => exact I.after hq
    | next => exact hq.elim
    | brk => exact hq.elim
    | cont => exact hq.elim
/-- f(e, ..) whose exceptions are taken as the slots stand -/
def tClS (sp : Sp) (E : L2.St → XK) (t : TA) : TE := fun σ H Q => t σ H fun vs H1 => sp vs H1 Q (E σ)
theorem pe_callXS (G : Ok X.prog X.w X.K X.mg X.base CX k x ps sp) (hgd : X.A.guards = some []) (hr : Room k X.A) (hx : ∀ σ, PassesAt CX X σ (E σ)) (ha : PA X (e :: es) t) (hg : Gl X x := by rfl)
    (hdb : (x == ("__debug__" : Str)) = false := by decide) (he : starEach (e :: es) X.env = (false, eval e X.env) :: starEach es X.env := by rfl) (hpl : (backTo pos (starEach es X.env)).any (·.1) = false := by rfl) :
    PE X (.Call (.Name x p) (e :: es) [] pos) (tClS sp E t) := by
  obtain ⟨f, fd, F, hb, hm, hk, _⟩ := G
  refine ⟨fun pins st σ H Q I h => ?_⟩
  refine wpAny_Call_Name_kw (ld_glob I hg hm ?_ hdb)
  refine PySem.W.callWith_K (h₀ := X.base) I.ok.mod.kin hk (thn (ha.run pos pins st σ H _ I h) fun us s2 ⟨vs, H2, I2, rv, q⟩ => ⟨I2.kIn, run_gS F hgd hr hb (hx σ) I2 rv q⟩) he hpl
end
/-- e.f of such an exception -/
def tKf (K : PySem.W.Frag) (f : Str) (te : TE) : TE := fun σ H Q => te σ H fun x H1 => ∃ (a C dd : Addr) (fs : List (Str × V)) (v : V), x = .ref a ∧ H1 a = some (exK a (.ref C) (some dd)) ∧ H1 dd = some (.xd fs) ∧ fs.lookup f = some v ∧ XfC K C ∧ PySem.W.findIn K (.ref C) f = some none ∧ Q v H1
theorem pe_kf {X : Cx} {e : Expr} {te : TE} {pos : Pos} {f : Str} (he : PE X e te) (hb : attributeBase e f X.env (eval e X.env) = eval e X.env := by rfl) : PE X (.Attribute e f pos) (tKf X.K f te) := by
  constructor
  intro pins s σ H Q I sat
  refine attr_of hb (thn (he.run pins s σ H _ I sat) fun u s1 got => ?_)
  obtain ⟨x, H1, I1, rx, a, C, dd, fs, v, rfl, ka, kd, hl, T, hno, q⟩ := got
  obtain rfl : u = Value.ref a := rx
  obtain ⟨oe, vs, at1, z1, f1⟩ := exK_at I1.hok ka
  have dict : ObjOk X.prog X.w H1 s1.heap dd (.xd fs) := I1.hok dd _ kd
  obtain ⟨mA, hns, hr⟩ := dict
  obtain ⟨od, ho, look⟩ := lookIn_ns hns
  obtain ⟨u, hu, ru⟩ := RelO.some_of (v := v) (o := mA f) (by rw [← hl]; exact hr f)
  have inst : PySem.W.InstAt s1.heap a oe C (some od) := ⟨at1, z1.1, by unfold PySem.W.notCls; rw [f1] <;> rfl, by rw [z1.2]; exact ho⟩
  exact HandSPX.exc_get I1.kIn inst T.ga T.gg T.exC (PySem.W.findObj_own T.hdC hno rfl (by rw [look, hu])) (handed_of ru) ⟨v, H1, I1.tok _, ru, q⟩
end My

/-! the written part's facts of own exceptions, observed behind the top -/
namespace My
open PySem PySem.Spec PyProof.Rows L2 Evl
theorem band {a b : Bool} (h : (a && b) = true) : a = true ∧ b = true := Bool.and_eq_true_iff.mp h
/-! ### the class -/
def oexB (K : PySem.W.Frag) (C : Addr) : Bool := match K.lookup C with
  | some ⟨.type t, _, .cls cd, sl⟩ => (match cd.mro, sl.toList with
    | .ref C' :: bm, [_, _, _, _, some (.builtin n), _] => decide (t = "type") && (decide (C' = C) && (decide (n = "ValueError.__new__") && (cd.hasDict && ((!cd.hasDel) && PySem.HandSPX.refsVE bm))))
    | _, _ => false)
  | _ => false
theorem oexB_ok {K : PySem.W.Frag} {C : Addr} (h : oexB K C = true) : ∃ nm q N bs bm sn sub ab col dd k0 k1 k2 k3 k5, K.lookup C = some (excClassObj nm q C N bs bm true sn sub ab col dd k0 k1 k2 k3 k5 "ValueError.__new__") ∧ PySem.HandSPX.refsVE bm = true := by
  unfold oexB at h
  split at h
  · rename_i t dd cd sl ho
    split at h
    · rename_i C' bm k0 k1 k2 k3 n k5 hm hs
      obtain ⟨e1, h1⟩ := band h
      obtain ⟨e2, h2⟩ := band h1
      obtain ⟨e3, h3⟩ := band h2
      obtain ⟨e4, h4⟩ := band h3
      obtain ⟨e5, h5⟩ := band h4
      obtain rfl := of_decide_eq_true e1
      obtain rfl := of_decide_eq_true e2
      obtain rfl := of_decide_eq_true e3
      obtain ⟨nm, bs, mro, ns, qn, hd, sn, sub, ab, col, del⟩ := cd
      dsimp only at hm e4 e5
      rw [Bool.not_eq_true'] at e5
      subst hm e4 e5
      have hsl : sl = #[k0, k1, k2, k3, some (.builtin "ValueError.__new__"), k5] := by
        obtain ⟨l⟩ := sl
        simp only at hs
        rw [hs]
      subst hsl
      exact ⟨nm, qn, ns, bs, bm, sn, sub, ab, col, dd, k0, k1, k2, k3, k5, ho, h5⟩
    · cases h
  · cases h
def exfB (K : PySem.W.Frag) (D C fI : Addr) (fld : Str) : Bool :=
  oexB K C && (He.eqO (PySem.W.findIn K (.ref C) "__setattr__") (some (some (.builtin "object.__setattr__"))) && (decide (PySem.W.subIn K (.ref C) (.type "BaseException") = some true) && (decide (PySem.W.typeIn K (.ref C) = some (.type "type")) && (PySem.W.keepIn K (.ref C) &&
  (decide (PySem.W.mroIn K C (.ref D) = some true) && (He.eqO (PySem.W.ks_superIn K C D "__init__") (some (some (.builtin "ValueError.__init__"))) && (decide (PySem.W.subIn K (.ref C) (.type "ValueError") = some true) && (He.eqO (PySem.W.findIn K (.ref C) "__init__") (some (some (.ref fI))) &&
  (decide (PySem.W.typeIn K (.ref fI) = some (.type "function")) && (He.eqO (PySem.W.findIn K (.ref C) fld) (some none) && xfB K C))))))))))
theorem exfB_ok {K : PySem.W.Frag} {D C fI : Addr} {fld : Str} (h : exfB K D C fI fld = true) : ExF K D C fI fld ∧ XfC K C := by
  obtain ⟨c1, h⟩ := band h
  obtain ⟨c2, h⟩ := band h
  obtain ⟨c3, h⟩ := band h
  obtain ⟨c4, h⟩ := band h
  obtain ⟨c5, h⟩ := band h
  obtain ⟨c6, h⟩ := band h
  obtain ⟨c7, h⟩ := band h
  obtain ⟨c8, h⟩ := band h
  obtain ⟨c9, h⟩ := band h
  obtain ⟨c10, h⟩ := band h
  obtain ⟨c11, c12⟩ := band h
  exact ⟨⟨⟨oexB_ok c1, He.eqO_ok c2, of_decide_eq_true c3, of_decide_eq_true c4, c5⟩, of_decide_eq_true c6, He.eqO_ok c7, of_decide_eq_true c8, He.eqO_ok c9, of_decide_eq_true c10, He.eqO_ok c11⟩, xfB_ok c12⟩
/-- what the program is to say -/
def FileIs (P : Program) (file : Str) : Prop := P.main.file = file ∧ (P.main.scope.names.lookup ("super" : Str)).isSome = false
/-! ### its __init__ -/
/-- the base class, its __init__, the classes over it -/
structure XSp where
  d : Str
  nm : Str
  qual : Str
  params : Arguments
  body : List Stmt
  scope : Scope
  file : Str
  cls : List Str
  fld : Str
abbrev FnX : Type := Option (Str × Str × Arguments × FuncBody × Scope × Addr × Addr)
def xD (K : PySem.W.Frag) (x : XSp) : Addr := He.ga K x.d
def xI (K : PySem.W.Frag) (x : XSp) : Addr := He.ma K (xD K x) "__init__"
def fnXo (K : PySem.W.Frag) (x : XSp) : FnX := match K.lookup (xI K x) with
  | some ⟨_, _, .func fd, _⟩ => some (fd.name, fd.qualname, fd.params, fd.body, fd.scope, fd.globals, fd.builtins)
  | _ => none
def XSp.val (x : XSp) : FnX := some (x.nm, x.qual, x.params, .stmts x.body, x.scope, mainGlobals, builtinsNs)
def fileB (K : PySem.W.Frag) (c : Value) (file : Str) : Bool := match c with
  | .ref cda => (match K.lookup cda with
    | some ⟨_, _, .fields vs, _⟩ => (match (vs[2]? : Option Value) with
      | some (.str f _) => decide (f = file)
      | _ => false)
    | _ => false)
  | _ => false
theorem fileB_ok {K : PySem.W.Frag} {c : Value} {file : Str} (h : fileB K c file = true) : ∃ cda ccl cdd vs ccs tf, c = .ref cda ∧ K.lookup cda = some ⟨ccl, cdd, .fields vs, ccs⟩ ∧ vs[2]? = some (.str file tf) := by
  unfold fileB at h
  split at h
  · split at h
    · rename_i e1
      split at h
      · rename_i e2
        obtain rfl := of_decide_eq_true h
        exact ⟨_, _, _, _, _, _, rfl, e1, e2⟩
      · cases h
    · cases h
  · cases h
def cellB (K : PySem.W.Frag) (cl : List (Str × Addr)) (D : Addr) : Bool := match cl with
  | [(n, cc)] => decide (n = "__class__") && (match K.lookup cc with
    | some ⟨_, _, .cell (some (.ref E)), _⟩ => decide (E = D)
    | _ => false)
  | _ => false
theorem cellB_ok {K : PySem.W.Frag} {cl : List (Str × Addr)} {D : Addr} (h : cellB K cl D = true) : ∃ cc c d sl, cl = [(("__class__" : Str), cc)] ∧ K.lookup cc = some ⟨c, d, .cell (some (.ref D)), sl⟩ := by
  unfold cellB at h
  split at h
  · obtain ⟨e1, h⟩ := band h
    obtain rfl := of_decide_eq_true e1
    split at h
    · rename_i e2
      obtain rfl := of_decide_eq_true h
      exact ⟨_, _, _, _, rfl, e2⟩
    · cases h
  · cases h
def noneB : Value → Bool
  | .none => true
  | _ => false
theorem noneB_ok {v : Value} (h : noneB v = true) : v = .none := by
  cases v <;> first | rfl | cases h
def iniB (K : PySem.W.Frag) (x : XSp) : Bool := (match K.lookup (xI K x) with
  | some ⟨_, _, .func fd, _⟩ => PySem.W.codeIn K fd.code x.qual && (fileB K fd.code x.file && (cellB K fd.closure (xD K x) && noneB fd.defaults))
  | _ => false) && ((PySem.W.clsIn K (xD K x)).isSome && (He.eqO (PySem.W.nsIn K mainGlobals "super") (some none) && (He.eqO (PySem.W.nsIn K cStatics "thirdparty.any") (some none) && PySem.W.keepIn K (.ref (xI K x)))))
def xsB (K : PySem.W.Frag) (x : XSp) : Bool := iniB K x && x.cls.all fun n => He.eqO (PySem.W.nsIn K mainGlobals n) (some (some (.ref (He.ga K n)))) && (exfB K (xD K x) (He.ga K n) (xI K x) x.fld && decide (PySem.W.exmOne K (.ref (He.ga K n)) (.ref (He.ga K n)) = some true))
/-- a class over the base, by its name -/
def ExAt (K : PySem.W.Frag) (mg : Str → Option Value) (x : XSp) (n : Str) : Prop := ∃ C, mg n = some (.ref C) ∧ ExF K (xD K x) C (xI K x) x.fld ∧ XfC K C ∧ PySem.W.exmOne K (.ref C) (.ref C) = some true
/-- the base's __init__ -/
def IniAt (K : PySem.W.Frag) (x : XSp) (ps : List Str) : Prop := ∀ {P : Program}, FileIs P x.file → ∃ fd, SupF P K (xD K x) (xI K x) x.params x.body x.scope fd ∧ Binds K fd ps []
theorem ini_ok {P : Program} {K : PySem.W.Frag} {x : XSp} (hP : FileIs P x.file) (e : fnXo K x = x.val) (c : iniB K x = true) : ∃ fd, SupF P K (xD K x) (xI K x) x.params x.body x.scope fd ∧
    ∃ (kV doc pm : Value) (an : Option Addr) (cda cc : Addr) (ct : Value), fd = PySem.W.ksFn x.nm x.qual x.params x.body x.scope .none kV doc pm an (.ref cda) ct cc := by
  obtain ⟨c1, c⟩ := band c
  obtain ⟨c2, c⟩ := band c
  obtain ⟨c3, c⟩ := band c
  obtain ⟨c4, c5⟩ := band c
  unfold fnXo at e
  cases q : K.lookup (xI K x) with
  | none =>
    rw [q] at c1
    cases c1
  | some o =>
    obtain ⟨oc, od, dt, osl⟩ := o
    rw [q] at c1 e
    cases dt with
    | func fd =>
      obtain ⟨n1, n2, n3, n4, n5, n6, n7, n8, n9, n10, n11, n12, n13, n14, n15⟩ := fd
      have e2 : (some (n1, n2, n3, n4, n5, n6, n15) : FnX) = some (x.nm, x.qual, x.params, .stmts x.body, x.scope, mainGlobals, builtinsNs) := e
      simp only [Option.some.injEq, Prod.mk.injEq] at e2
      obtain ⟨h1, h2, h3, h4, h5, h6, h8⟩ := e2
      subst h1 h2 h3 h4 h5 h6 h8
      have d0 : (PySem.W.codeIn K n13 x.qual && (fileB K n13 x.file && (cellB K n7 (xD K x) && noneB n8))) = true := c1
      obtain ⟨d1, d⟩ := band d0
      obtain ⟨d2, d⟩ := band d
      obtain ⟨d3, d4⟩ := band d
      obtain ⟨cda, ccl, cdd, vs, ccs, tf, rfl, l1, l2⟩ := fileB_ok d2
      obtain ⟨cc, cl, cld, csl, rfl, l3⟩ := cellB_ok d3
      obtain rfl := noneB_ok d4
      refine ⟨_, ⟨⟨oc, od, osl, _, n9, n10, n11, n12, cda, cc, n14, x.nm, x.qual, rfl, q, d1, ⟨ccl, cdd, vs, ccs, x.file, tf, l1, l2, ?_⟩, cl, cld, csl, l3⟩, Option.isSome_iff_exists.mp c2, He.eqO_ok c3, He.eqO_ok c4, hP.2, c5⟩, n9, n10, n11, n12, cda, cc, n14, rfl⟩
      rw [hP.1]
      exact BEq.rfl
    | _ => cases c1
/-! ### the Hook -/
abbrev AlX : Type := He.AlD × FnX × Bool
def obsX (fa : List He.Fa) (fn : List He.DefD) (x : XSp) (K : PySem.W.Frag) : AlX := (He.obsD fa fn K, fnXo K x, xsB K x)
def valX (fn : List He.DefD) (x : XSp) : AlX := (He.valD fn, x.val, true)
def SaysX (fa : List He.Fa) (fn : List He.DefD) (x : XSp) (K : PySem.W.Frag) : Prop := obsX fa fn x K = valX fn x
def obsXG (n : Nat) (fa : List He.Fa) (fn : List He.DefD) (x : XSp) (g : Addr → Option Obj) : AlX := obsX fa fn x (He.frG g (cStatics :: He.asD g n))
def hookX (n : Nat) (fa : List He.Fa) (fn : List He.DefD) (x : XSp) : PySem.W.Hook where
  α := AlX
  obs := fun s => obsXG n fa fn x s.heap.get?
  val := fun _ => valX fn x
  says := fun _ h => ∃ K : PySem.W.Frag, K.In h ∧ SaysX fa fn x K
  of := fun _ _ e => ⟨_, He.frG_in, e⟩
  keeps := fun _ _ _ ⟨K, hK, c⟩ k => ⟨K, PySem.W.Frag.In.keeps hK k, c⟩
theorem obsXG_eq {n : Nat} {fa : List He.Fa} {fn : List He.DefD} {x : XSp} {g : Addr → Option Obj} {s : Shared} (h : ∀ a, g a = s.heap.get? a) : obsXG n fa fn x g = (hookX n fa fn x).obs s := by
  have e : g = s.heap.get? := funext h
  rw [e] <;> rfl
section
variable {fa : List He.Fa} {fn : List He.DefD} {x : XSp} {K : PySem.W.Frag}
theorem SaysX.d (c : SaysX fa fn x K) : He.SaysD fa fn K := congrArg (fun z : AlX => z.1) c
theorem SaysX.cls {h : Heap} {mg : Str → Option Value} (c : SaysX fa fn x K) (X : K.In h) (G : h.Ns mainGlobals mg) (i : Nat) {n : Str} (hn : x.cls[i]? = some n := by rfl) : ExAt K mg x n := by
  have c1 : xsB K x = true := congrArg (fun z : AlX => z.2.2) c
  obtain ⟨_, c2⟩ := band c1
  obtain ⟨c3, c4⟩ := band (List.all_eq_true.mp c2 n (List.mem_of_getElem? hn))
  obtain ⟨c5, c6⟩ := band c4
  obtain ⟨e1, e2⟩ := exfB_ok c5
  exact ⟨_, PySem.W.mg_of X G (He.eqO_ok c3), e1, e2, of_decide_eq_true c6⟩
theorem SaysX.ini (c : SaysX fa fn x K) {ps : List Str} (h : ∀ (kV doc pm : Value) (an : Option Addr) (cda cc : Addr) (ct : Value) (us : List Value), us.length = ps.length → bindArgs (PySem.W.ksFn x.nm x.qual x.params x.body x.scope .none kV doc pm an (.ref cda) ct cc) ⟨us, []⟩ = pure (ps.zip us)) :
    IniAt K x ps := fun {P} hP => by
  have c1 : xsB K x = true := congrArg (fun z : AlX => z.2.2) c
  obtain ⟨fd, S, kV, doc, pm, an, cda, cc, ct, rfl⟩ := ini_ok hP (congrArg (fun z : AlX => z.2.1) c) (band c1).1
  exact ⟨_, S, .all (h kV doc pm an cda cc ct)⟩
end
end My

/-! the end: a law's promise, at what the top has left -/
namespace My
open PySem PySem.Spec PyProof.Rows L2
abbrev EndR (t : Shared) (r : Result) (t2 : Shared) : Prop := r = .ok (.ret (.bool true)) ∧ OldK t.heap t2.heap ∧ t2.os = t.os ∧ AllBare t2.gens
theorem end_core {P : Program} {w : World} {K : PySem.W.Frag} {mg mb : Str → Option Value} {k : Nat} {g a : Addr} {fd : FuncData} {x : Str} {sp : Sp} {t : Shared} {us : List Value} {ns : List Int} (kin : K.In t.heap)
    (glo : t.heap.Ns mainGlobals mg) (blt : t.heap.Ns builtinsNs mb) (mean : ∀ y : Str, y ≠ "__name__" → mb y = bootBuiltins y) (lim : t.heap.NoLimit) (gens : t.gens = #[])
    (lst : t.heap.get? a = some { cls := .type "list", data := .seq us.toArray }) (room : Room k callerA)
    (F : ∀ base : Heap, K.In base → base.Ns mainGlobals mg → FnG P w K mg base CX0 k g fd [x] sp)
    (bind : ∀ (t : Shared) (u : Value), BindsTo t fd ⟨[u], []⟩ [(x, u)]) {H : Hp} (only : Only H) (sat : sp [.ref a] H (fun v _ => v = .bl true) fun _ _ _ => False) (hok : HOk P w H t.heap)
    (one : ∀ b, H b ≠ none → b = a) (apart : H a ≠ none → K.lookup a = none) : codeAny (model P w) callerA (.call (.ref g) ⟨[.ref a], []⟩) (EndR t) t := by
  have gone : ∀ {b : Addr}, ¬ H b ≠ none → H b = none := fun {b} z => Decidable.not_not.mp z
  have dictFree : ∀ {b : Addr} {o : Obj} {es : Array DictEntry} {ep : Nat}, t.heap.get? b = some o → o.data = .dict es ep → H b = none := by
    intro b o es ep e d
    apply gone
    intro z
    have eb := one b z
    rw [eb, lst] at e
    cases e
    cases (d : Data.seq us.toArray _ = Data.dict es ep)
  have spaces : ∀ {b : Addr} {m : Str → Option Value}, t.heap.Ns b m → (hidT t.heap H).Ns b m := by
    rintro b m ⟨o, es, ep, e, d, r⟩
    exact ⟨o, es, ep, hidT_get e (dictFree e d), d, r⟩
  have kinB : K.In (hidT t.heap H) := by
    intro b o e
    refine hidT_get (kin b o e) (gone fun z => ?_)
    have eb := one b z
    rw [eb] at z e
    rw [apart z] at e
    cases e
  have mod : Mod K mg (hidT t.heap H) := by
    refine ⟨kinB, spaces glo, ⟨mb, spaces blt, mean⟩, ?_⟩
    obtain ⟨mc, n1, n2⟩ := lim
    exact ⟨mc, spaces n1, n2⟩
  have env : Env0 P w K mg (hidT t.heap H) callerA [] t H :=
    ⟨rfl, mod, fun b o e => of_hidT e, Nat.le_of_eq (hidT_size _ _), trivial, fun b hb => (List.not_mem_nil hb).elim, hok, .of_eq gens⟩
  have start := (F _ kinB (spaces glo)).run callerA [] t H ⟨[.ref a], []⟩ [.ref a] [.ref a] _ _ rfl room env (bind t (.ref a)) (.cons rfl .nil) sat
  refine codeAny_mono start fun r t2 got => ?_
  match r, got with
  | .error e, got => exact got.elim
  | .ok (.ret u), ⟨v, H2, os, bare, un, hok2, rv, ev⟩ =>
    have ev : v = .bl true := ev
    rw [ev] at rv
    have eu : u = Value.bool true := rv
    rw [eu]
    refine ⟨rfl, OldK.of_keep fun b o e => ?_, os, bare⟩
    rcases only b with z | ⟨ob, xs, z⟩
    · exact un.keep b o e z List.not_mem_nil List.not_mem_nil
    · obtain ⟨e1, _⟩ := hok b _ z
      obtain ⟨e2, _⟩ := hok2 b _ (un.frzs b ob _ z)
      rw [e1] at e
      rw [← e]
      exact e2
theorem end_call {P : Program} {w : World} {K : PySem.W.Frag} {mg mb : Str → Option Value} {k : Nat} {g a : Addr} {fd : FuncData} {x : Str} {sp : Sp} {t : Shared} {us : List Value} {ns : List Int} (kin : K.In t.heap)
    (glo : t.heap.Ns mainGlobals mg) (blt : t.heap.Ns builtinsNs mb) (mean : ∀ y : Str, y ≠ "__name__" → mb y = bootBuiltins y) (lim : t.heap.NoLimit) (gens : t.gens = #[])
    (lst : t.heap.get? a = some { cls := .type "list", data := .seq us.toArray }) (areInts : IntsAre us ns) (len : ns.length ≤ sizeLine) (room : Room k callerA)
    (F : ∀ base : Heap, K.In base → base.Ns mainGlobals mg → FnG P w K mg base CX0 k g fd [x] sp)
    (bind : ∀ (t : Shared) (u : Value), BindsTo t fd ⟨[u], []⟩ [(x, u)]) (sat : ∀ H : Hp, Only H → SqL K H a (ns.map V.int) → sp [.ref a] H (fun v _ => v = .bl true) fun _ _ _ => False) :
    codeAny (model P w) callerA (.call (.ref g) ⟨[.ref a], []⟩) (EndR t) t := by
  have rv := vals_ints areInts
  have lu := areInts.length
  cases hk : K.lookup a with
  | some o =>
    have e := kin a o hk
    rw [lst] at e
    obtain rfl := Option.some.inj e
    have only : Only fun _ => none := fun _ => .inl rfl
    refine end_core (H := fun _ => none) (ns := ns) kin glo blt mean lim gens lst room F bind only (sat _ only (.inr ⟨_, us.toArray, _, hk, rfl, rfl, rfl, ?_, by simpa using rv⟩)) (fun b u z => ?_) (fun b z => absurd rfl z) fun z => absurd rfl z
    · rw [List.size_toArray, lu]
      exact len
    · cases (z : (none : Option HO) = some u)
  | none =>
    have at1 : upd (fun _ => none) a (.frz { cls := .type "list", data := .seq us.toArray } (.lst (ns.map V.int))) a = some (.frz { cls := .type "list", data := .seq us.toArray } (.lst (ns.map V.int))) := upd_same
    have off : ∀ {b : Addr}, b ≠ a → upd (fun _ => none) a (.frz { cls := .type "list", data := .seq us.toArray } (.lst (ns.map V.int))) b = none := fun nb => upd_ne nb
    generalize upd (fun _ => none) a (.frz { cls := .type "list", data := .seq us.toArray } (.lst (ns.map V.int))) = H at at1 off
    have only : Only H := fun b => (Decidable.em (b = a)).elim (fun z => .inr ⟨_, _, z ▸ at1⟩) fun z => .inl (off z)
    refine end_core (H := H) (ns := ns) kin glo blt mean lim gens lst room F bind only (sat _ only (.inl (.inr ⟨_, at1⟩))) (fun b u z => ?_) (fun b z => Decidable.byContradiction fun q => z (off q)) fun _ => hk
    by_cases hb : b = a
    · rw [hb, at1] at z
      obtain rfl := Option.some.inj z
      rw [hb]
      exact ⟨lst, by rw [List.length_map]; exact len, us, _, rv, lst⟩
    · rw [off hb] at z
      cases z
theorem end_walk {l : PySem.W.OpenLaw} {n k : Nat} {q : Program} {loose : List Str} {XP : (Str → Option Value) → Heap → Prop} {YP : World → Heap → Prop} {d : DefRec} {x : Str} (most : l.most = some n) (fits : n ≤ sizeLine) (plain : d.params.defaults = []) (room : Room k callerA)
    (F : ∀ (w : World) (mg : Str → Option Value) (g : Addr) (h : Heap), YP w h → h.Ns mainGlobals mg → mg d.name = some (.ref g) → ∃ (K : PySem.W.Frag) (fd : FuncData) (sp : Sp), K.In h ∧ (∀ (t : Shared) (u : Value), BindsTo t fd ⟨[u], []⟩ [(x, u)]) ∧
      (∀ (H : Hp) (a : Addr) (ns : List Int), ns.length ≤ n → Only H → SqL K H a (ns.map V.int) → sp [.ref a] H (fun v _ => v = .bl true) fun _ _ _ => False) ∧ ∀ base : Heap, K.In base → base.Ns mainGlobals mg → FnG l.prog w K mg base CX0 k g fd [x] sp) :
    PySem.W.WalkO q loose XP YP l.row.toRowW d [] (fun f vs => PySem.call f vs) := by
  refine Att.attach_call most plain fun w s1 t mg mb g o pm cd doc a us ns G Y ho hd hcd hm lst areInts hlen gens => ?_
  obtain ⟨K, fd, sp, kin, bind, sat, run⟩ := F w mg g _ Y G.T.g hm
  exact end_call kin G.T.g G.T.b G.T.builtins G.T.nolimit gens lst areInts (Nat.le_trans hlen fits) room run bind fun H hO hS => sat H a ns hlen hO hS
/-- the law's def, over every base -/
theorem law_fn {P : Program} {w : World} {K : PySem.W.Frag} {mg : Str → Option Value} {x y : Str} {st : Stmt} {k : Nat} {sp : Sp} {g : Addr} (D : DefAt K mg x st [y]) (hm : mg x = some (.ref g)) (G : ∀ base : Heap, Ok P w K mg base CX0 k x [y] sp)
    (h : ∀ (kV doc pm : Value) (an : Option Addr) (cdv ct : Value) (us : List Value), us.length = [y].length → bindArgs (PySem.W.fnOf x x (defArgs st) (defBody st) (defScope st) .none kV doc pm an cdv ct) ⟨us, []⟩ = pure ([y].zip us)) :
    ∃ fd, (∀ (t : Shared) (u : Value), BindsTo t fd ⟨[u], []⟩ [(y, u)]) ∧ ∀ base : Heap, FnG P w K mg base CX0 k g fd [y] sp := by
  obtain ⟨f, fd, F, _, hf⟩ := D
  obtain rfl : g = f := by
    rw [hm] at hf
    cases hf
    rfl
  refine ⟨fd, fun t u => F.bindsA h t [u] rfl, fun base => ?_⟩
  obtain ⟨f2, fd2, F2, _, hf2, _, a2⟩ := G base
  obtain rfl : g = f2 := by
    rw [hm] at hf2
    cases hf2
    rfl
  rw [fdAt_eq (fdAt_of F) a2]
  exact F2
end My

/-! min of a list of texts; sorted of a list of tuples of texts -/
namespace My
open PySem PySem.Spec PyProof.Rows L2 Evl
/-- the least text -/
def minS (x : Str) (xs : List Str) : Str := xs.foldl (fun a y => if sg y < sg a then y else a) x
theorem minS_data (x : Str) : ∀ xs : List Str, PySem.W.minD (.str x) (xs.map PyData.str) = .str (minS x xs) := by
  intro xs
  unfold PySem.W.minD minS
  induction xs generalizing x with
  | nil => rfl
  | cons y ys ih =>
    rw [List.map_cons, List.foldl_cons, List.foldl_cons, PySem.W.dataLt_str]
    show List.foldl _ (if decide (sg y < sg x) = true then PyData.str y else PyData.str x) _ = _
    by_cases h : sg y < sg x
    · rw [if_pos h, if_pos (decide_eq_true h)]
      exact ih y
    · rw [if_neg h, if_neg (by rw [decide_eq_false h]; exact Bool.false_ne_true)]
      exact ih x
theorem sg_le_trans {a b c : List Nat} (h1 : ¬ b < a) (h2 : ¬ c < b) : ¬ c < a := fun h => by
  have := List.le_trans (List.not_lt.mp h1) (List.not_lt.mp h2)
  exact List.not_lt.mpr this h
theorem minS_spec : ∀ (xs : List Str) (x : Str), (minS x xs = x ∨ minS x xs ∈ xs) ∧ ¬ sg x < sg (minS x xs) ∧ ∀ y ∈ xs, ¬ sg y < sg (minS x xs)
  | [], x => ⟨.inl rfl, List.lt_irrefl _, fun y hy => (List.not_mem_nil hy).elim⟩
  | y :: ys, x => by
    have step : minS x (y :: ys) = minS (if sg y < sg x then y else x) ys := rfl
    rw [step]
    obtain ⟨h1, h2, h3⟩ := minS_spec ys (if sg y < sg x then y else x)
    generalize minS (if sg y < sg x then y else x) ys = m at h1 h2 h3
    by_cases h : sg y < sg x
    · rw [if_pos h] at h1 h2
      refine ⟨.inr (h1.elim (fun e => by rw [e]; exact List.mem_cons_self ..) fun e => List.mem_cons_of_mem _ e), fun z => h2 (List.lt_trans h z), fun z hz => ?_⟩
      rcases List.mem_cons.mp hz with rfl | hz
      · exact h2
      · exact h3 z hz
    · rw [if_neg h] at h1 h2
      refine ⟨h1.elim .inl fun e => .inr (List.mem_cons_of_mem _ e), h2, fun z hz => ?_⟩
      rcases List.mem_cons.mp hz with rfl | hz
      · exact sg_le_trans h2 h
      · exact h3 z hz
theorem depth_strs : ∀ (ws : List Str), PyData.depthAll (ws.map PyData.str) = 0
  | [] => rfl
  | x :: ws => by
    show max 0 (PyData.depthAll (ws.map PyData.str)) = 0
    rw [depth_strs ws]
    rfl
theorem alike_strs : ∀ xs ys : List Str, PySem.W.alikeAll (xs.map .str) (ys.map .str) = true
  | [], _ => by simp [PySem.W.alikeAll]
  | x :: xs, [] => rfl
  | x :: xs, y :: ys => by
    show (true && PySem.W.alikeAll (xs.map .str) (ys.map .str)) = true
    rw [alike_strs xs ys]
    rfl
def rMinS (K : PySem.W.Frag) : List V → Hp → VK → Prop := fun xs H Q => ∃ (a : Addr) (ks : List Str), xs = [.ref a] ∧ SqL K H a (ks.map V.str) ∧ ks ≠ [] ∧ ∀ m, m ∈ ks → (∀ y ∈ ks, ¬ sg y < sg m) → Q (.str m) H
/-- a tuple of texts that has one -/
def encT (b : Str × List Str) : PyData := strsT (b.1 :: b.2)
def sortT (bs : List (Str × List Str)) : List (Str × List Str) := bs.mergeSort (PySem.W.dataLe false encT)
theorem sortT_perm (bs : List (Str × List Str)) : (sortT bs).Perm bs := List.mergeSort_perm bs _
def rSortT (K : PySem.W.Frag) : List V → Hp → VK → Prop := fun xs H Q => ∃ (a : Addr) (acc : List V) (bs : List (Str × List Str)), xs = [.ref a] ∧ SqL K H a acc ∧ DpAll K H acc (bs.map encT) ∧ bs.length ≤ 100000 ∧
  ∀ p acc2, H p = none → DpAll K H acc2 ((sortT bs).map encT) → Q (.ref p) (upd H p (.lst acc2))
theorem each_dp {K : PySem.W.Frag} {H : Hp} : ∀ {acc : List V} {us : List Value} {bs : List (Str × List Str)}, DpAll K H acc (bs.map encT) → Vals acc us → PySem.W.EachIs (fun v b => ∃ x, RelV x v ∧ Dp K H x (encT b)) us bs
  | [], [], [], _, _ => .nil
  | [], [], _ :: _, h, _ => by cases h
  | _ :: _, _ :: _, [], h, _ => by cases h
  | x :: acc, u :: us, b :: bs, h, .cons r rs => by
    cases h with
    | cons h1 h2 => exact .cons ⟨x, r, h1⟩ (each_dp h2 rs)
  | [], _ :: _, _, _, r => nomatch r
  | _ :: _, [], _, _, r => nomatch r
theorem dp_each {K : PySem.W.Frag} {H : Hp} : ∀ {us : List Value} {bs : List (Str × List Str)}, PySem.W.EachIs (fun v b => ∃ x, RelV x v ∧ Dp K H x (encT b)) us bs → ∃ acc, DpAll K H acc (bs.map encT) ∧ Vals acc us
  | _, _, .nil => ⟨[], .nil, .nil⟩
  | _, _, .cons ⟨x, r, h⟩ e => by
    obtain ⟨acc, h1, h2⟩ := dp_each e
    exact ⟨x :: acc, .cons h h1, .cons r h2⟩
section
variable {X : Cx} {K : PySem.W.Frag}
theorem cr_minS (hc : X.calm = true) (hu : X.A.units + 64 < cLine) (hK : X.K = K := by rfl) : CallR X (.builtin "min") (rMinS K) := by
  subst hK
  intro pins st σ H xs us Q I r q
  obtain ⟨a, ks, rfl, hs, hne, q⟩ := q
  obtain ⟨its, rv, hl, _⟩ := I.list hs
  rw [Vals.ref1 r]
  cases ks with
  | nil => exact absurd rfl hne
  | cons k0 ks =>
    have dp : ∀ l : List Str, DpAll X.K H (l.map V.str) (l.map PyData.str) := fun l => by
      induction l with
      | nil => exact .nil
      | cons x l ih => exact .cons (.str x) ih
    obtain ⟨as, hr⟩ := Dp.readsAll I _ _ its (dp (k0 :: ks)) rv
    refine PySem.W.min_list_data (x := .str k0) (xs := ks.map PyData.str) (I.ok.hd hc) hl.isList (by rw [List.toList_toArray]; exact hr) ⟨fun x hx y hy => ?_, fun x hx => ?_⟩ ?_ fun i v h' tk bs hv rd hk => ?_
    · obtain ⟨x', _, rfl⟩ := List.mem_map.mp (show x ∈ (k0 :: ks).map PyData.str from hx)
      obtain ⟨y', _, rfl⟩ := List.mem_map.mp (show y ∈ (k0 :: ks).map PyData.str from hy)
      rfl
    · obtain ⟨x', _, rfl⟩ := List.mem_map.mp (show x ∈ (k0 :: ks).map PyData.str from hx)
      exact fun z => nomatch z
    · show X.A.units + 1 + PyData.depthAll ((k0 :: ks).map PyData.str) < cLine
      rw [depth_strs]
      omega
    · rw [minS_data] at rd
      obtain ⟨h1, h2, h3⟩ := minS_spec ks k0
      have mem : minS k0 ks ∈ k0 :: ks := h1.elim (fun e => by rw [e]; exact List.mem_cons_self ..) fun e => List.mem_cons_of_mem _ e
      cases rd with
      | str => exact ⟨.str _, H, I.kept (t' := tk) hk, ⟨_, rfl⟩, q _ mem fun y hy => (List.mem_cons.mp hy).elim (fun e => by rw [e]; exact h2) (h3 y)⟩
theorem cr_sortT (hu : X.A.units + 64 < cLine) (hK : X.K = K := by rfl) : CallR X (.builtin "sorted") (rSortT K) := by
  subst hK
  intro pins st σ H xs us Q I r q
  obtain ⟨a, acc, bs, rfl, hs, hd, hmax, q⟩ := q
  obtain ⟨its, rv, hl, _⟩ := I.list hs
  rw [Vals.ref1 r]
  have big : 100000 ≤ sizeLine := by decide
  have eb := each_dp hd rv
  refine PySem.W.sorted_data (R := fun v (b : Str × List Str) => ∃ x, RelV x v ∧ Dp X.K H x (encT b)) (enc := encT) (bs := bs) hl.isList eb (eb.mono fun v b ⟨x, h1, h2⟩ => Dp.reads I _ _ _ h2 h1)
    (PySem.W.AllAlike.of fun b b' => alike_strs (b.1 :: b.2) (b'.1 :: b'.2)) (PySem.W.Sortable.tuples fun b => ⟨.str b.1, b.2.map .str, rfl⟩) (by omega) (fun b _ => ?_) fun out olen eo => ?_
  · show X.A.units + 2 + (PyData.depthAll ((b.1 :: b.2).map PyData.str) + 1) < cLine
    rw [depth_strs]
    omega
  obtain ⟨acc2, hd2, hv2⟩ := dp_each eo
  obtain ⟨ep, he'⟩ := PyProof.Rows.sortedAll_at st.heap its out.toArray
  have l2 : acc2.length ≤ sizeLine := by
    rw [hv2.length, olen]
    omega
  exact ⟨.ref _, upd H (st.heap.objs.size + 1) (.lst acc2), I.laid (t' := st.toks) (fun _ _ => PyProof.Rows.sortedAll_old) (Nat.le_succ _) ⟨l2, out, ep, hv2, he'⟩, rfl, q _ _ (I.hok.fresh (Nat.le_succ _)) hd2⟩
theorem pi_range3K {tg a b c : Expr} {ta : TA} {p pos : Pos} (hg : Gl X "range") (hm : X.mg "range" = none) (ha : PA X [a, b, c] ta)
    (hs : starEach [a, b, c] X.env = (false, eval a X.env) :: starEach [b, c] X.env := by rfl) (hpl : (backTo pos (starEach [b, c] X.env)).any (·.1) = false := by rfl) :
    PI X tg (.Call (.Name "range" p) [a, b, c] [] pos) (iRng3 ta) := pi_range3 hg hm ha hs hpl
end
/-! ### a text, many times -/
theorem rep_fold (l : List Nat) : ∀ (m : Nat) (acc : Array Nat), (List.replicate m l.toArray).foldl (· ++ ·) acc = (acc.toList ++ rep m l).toArray
  | 0, acc => by
    unfold rep
    simp
  | m + 1, acc => by
    rw [List.replicate_succ, List.foldl_cons, rep_fold l m]
    unfold rep
    rw [List.replicate_succ, List.flatten_cons]
    simp
def rRepS : R2 := fun x y H Q => ∃ (z : Str) (k : Int), x = .str z ∧ y = .int k ∧ 2 ≤ k ∧ k ≤ 1000 ∧ 1 ≤ z.length ∧ z.length ≤ 1000 ∧ Q (.str (tx (rep k.toNat (sg z)))) H
theorem op_rep_str {X : Cx} : OpR X (binaryOp .Mult) rRepS := by
  intro pins s σ H x y v u Q I rx ry h
  obtain ⟨z, k, rfl, rfl, k2, k1000, z1, z1000, q⟩ := h
  obtain ⟨t, rfl⟩ := rx
  obtain ⟨t', rfl⟩ := ry
  have hm : z.length * k.toNat ≤ 1000 * 1000 := Nat.mul_le_mul z1000 (by omega)
  refine P.mul_str ?_ (fun _ _ => ?_) (fun _ _ => ?_) ?_
  · rw [decide_eq_false (by omega), decide_eq_false (by omega)]
    rfl
  · intro hgt
    have h1 : (2 ^ 63 - 1 : Int) / k < (z.length : Int) := hgt
    have h2 : (2 ^ 63 - 1 : Int) < (z.length : Int) * k := (Int.ediv_lt_iff_lt_mul (by omega)).mp h1
    have h3 : (z.length : Int) * k = ((z.length * k.toNat : Nat) : Int) := by
      rw [Int.natCast_mul, Int.toNat_of_nonneg (by omega)]
    omega
  · show decide (z.length * k.toNat > sizeLine) = false
    have big : 1000000 ≤ sizeLine := by decide
    exact decide_eq_false (by omega)
  · rw [if_neg (by omega), if_neg ?_]
    · have e : (List.replicate k.toNat z.cps).foldl (· ++ ·) #[] = (rep k.toNat (sg z)).toArray := by
        have := rep_fold (sg z) k.toNat #[]
        rw [List.nil_append] at this
        exact this
      rw [e]
      have l : (rep k.toNat (sg z)).toArray.size ≤ sizeLine := by
        have big : 1000000 ≤ sizeLine := by decide
        rw [List.size_toArray, rep_len, ← len_sg, Nat.mul_comm]
        omega
      exact ⟨l, .str _, H, I.tok _, ⟨_, rfl⟩, q⟩
    · intro h
      rcases Bool.or_eq_true_iff.mp h with h | h
      · have := eq_of_beq h
        omega
      · have := eq_of_beq h
        omega
end My

/-! the lots that hang together -/
namespace My
open PySem PySem.Spec PyProof.Rows L2 Evl
noncomputable def mutB (ws : List Str) (p q : Str) : Bool := rchB ws p q && rchB ws q p
theorem mutB_iff {ws : List Str} {p q : Str} : mutB ws p q = true ↔ Rch (nxts ws) p q ∧ Rch (nxts ws) q p := by
  unfold mutB
  rw [Bool.and_eq_true, rchB_iff, rchB_iff]
noncomputable def keyOf (ws : List Str) (p : Str) : Str := ((places ws).filter (mutB ws p)).headD p
theorem key_mut {ws : List Str} {p : Str} (hp : p ∈ plcs ws) : Rch (nxts ws) p (keyOf ws p) ∧ Rch (nxts ws) (keyOf ws p) p := by
  have hm : p ∈ (places ws).filter (mutB ws p) := List.mem_filter.mpr ⟨places_mem.mpr hp, mutB_iff.mpr ⟨.refl, .refl⟩⟩
  unfold keyOf
  cases e : (places ws).filter (mutB ws p) with
  | nil =>
    rw [e] at hm
    exact (List.not_mem_nil hm).elim
  | cons k ks =>
    have hk : k ∈ (places ws).filter (mutB ws p) := by
      rw [e]
      exact List.mem_cons_self ..
    exact mutB_iff.mp (List.mem_filter.mp hk).2
theorem key_same {ws : List Str} {p q : Str} (hp : p ∈ plcs ws) (h1 : Rch (nxts ws) p q) (h2 : Rch (nxts ws) q p) : keyOf ws p = keyOf ws q := by
  have hf : (places ws).filter (mutB ws p) = (places ws).filter (mutB ws q) := by
    refine List.filter_congr fun z hz => ?_
    rw [Bool.eq_iff_iff, mutB_iff, mutB_iff]
    exact ⟨fun ⟨a, b⟩ => ⟨h2.trans a, b.trans h1⟩, fun ⟨a, b⟩ => ⟨h1.trans a, b.trans h2⟩⟩
  have hm : p ∈ (places ws).filter (mutB ws p) := List.mem_filter.mpr ⟨places_mem.mpr hp, mutB_iff.mpr ⟨.refl, .refl⟩⟩
  unfold keyOf
  rw [← hf]
  cases e : (places ws).filter (mutB ws p) with
  | nil =>
    rw [e] at hm
    exact (List.not_mem_nil hm).elim
  | cons k ks => rfl
/-- it is the least of its kind -/
theorem key_least {ws : List Str} {p q : Str} (h1 : Rch (nxts ws) p q) (h2 : Rch (nxts ws) q p) (hq : q ∈ plcs ws) : ¬ sg q < sg (keyOf ws p) := by
  have hm : q ∈ (places ws).filter (mutB ws p) := List.mem_filter.mpr ⟨places_mem.mpr hq, mutB_iff.mpr ⟨h1, h2⟩⟩
  have ha : Asc ((places ws).filter (mutB ws p)) := List.Pairwise.filter _ (places_asc ws)
  unfold keyOf
  cases e : (places ws).filter (mutB ws p) with
  | nil =>
    rw [e] at hm
    exact (List.not_mem_nil hm).elim
  | cons k ks =>
    rw [e] at hm ha
    show ¬ sg q < sg k
    rcases List.mem_cons.mp hm with rfl | hm
    · exact List.lt_irrefl _
    · intro z
      exact List.lt_asymm z ((List.pairwise_cons.mp ha).1 q hm)
theorem key_is {ws l : List Str} {p m : Str} (hp : p ∈ plcs ws) (hl : ∀ z, z ∈ l ↔ Rch (nxts ws) p z ∧ Rch (nxts ws) z p) (hm : m ∈ l) (least : ∀ y ∈ l, ¬ sg y < sg m) : m = keyOf ws p := by
  obtain ⟨k1, k2⟩ := key_mut hp
  have a := least _ ((hl _).mpr ⟨k1, k2⟩)
  obtain ⟨m1, m2⟩ := (hl _).mp hm
  have b := key_least m1 m2 (rch_plc hp m1)
  exact sg_inj (List.le_antisymm (List.not_lt.mp a) (List.not_lt.mp b))
noncomputable def inL (ws : List Str) (x : Str) : Bool := rchB ws (endS x) (begS x)
noncomputable def lotOf (ws pre : List Str) (k : Str) : List Str := pre.filter fun x => inL ws x && decide (keyOf ws (begS x) = k)
noncomputable def lotKs (ws pre : List Str) : List Str := ded ((pre.filter (inL ws)).map fun x => keyOf ws (begS x))
theorem lotOf_mem {ws pre : List Str} {k x : Str} : x ∈ lotOf ws pre k ↔ x ∈ pre ∧ inL ws x = true ∧ keyOf ws (begS x) = k := by
  unfold lotOf
  rw [List.mem_filter, Bool.and_eq_true, decide_eq_true_iff]
theorem lotOf_snoc {ws pre : List Str} {x k : Str} : lotOf ws (pre ++ [x]) k = if inL ws x = true ∧ keyOf ws (begS x) = k then lotOf ws pre k ++ [x] else lotOf ws pre k := by
  unfold lotOf
  rw [List.filter_append]
  by_cases h : inL ws x = true ∧ keyOf ws (begS x) = k
  · rw [if_pos h, List.filter_cons_of_pos (by rw [h.1, decide_eq_true h.2]; rfl)]
    rfl
  · rw [if_neg h, List.filter_cons_of_neg (by rw [Bool.and_eq_true, decide_eq_true_iff]; exact h), List.filter_nil, List.append_nil]
theorem lotKs_snoc {ws pre : List Str} {x : Str} : lotKs ws (pre ++ [x]) = if inL ws x = true then addS (lotKs ws pre) (keyOf ws (begS x)) else lotKs ws pre := by
  unfold lotKs
  rw [List.filter_append]
  by_cases h : inL ws x = true
  · rw [if_pos h, List.filter_cons_of_pos h, List.map_append]
    exact ded_snoc _ _
  · rw [if_neg h, List.filter_cons_of_neg h, List.filter_nil, List.append_nil]
theorem lotKs_mem {ws pre : List Str} {k : Str} : k ∈ lotKs ws pre ↔ ∃ x ∈ pre, inL ws x = true ∧ keyOf ws (begS x) = k := by
  unfold lotKs
  rw [ded_mem, List.mem_map]
  exact ⟨fun ⟨x, h, e⟩ => ⟨x, (List.mem_filter.mp h).1, (List.mem_filter.mp h).2, e⟩, fun ⟨x, h1, h2, e⟩ => ⟨x, List.mem_filter.mpr ⟨h1, h2⟩, e⟩⟩
theorem lotOf_none {ws pre : List Str} {k : Str} (h : k ∉ lotKs ws pre) : lotOf ws pre k = [] := by
  refine List.eq_nil_iff_forall_not_mem.mpr fun x hx => h ?_
  obtain ⟨h1, h2, h3⟩ := lotOf_mem.mp hx
  exact lotKs_mem.mpr ⟨x, h1, h2, h3⟩
theorem lotOf_some {ws pre : List Str} {k : Str} (h : k ∈ lotKs ws pre) : lotOf ws pre k ≠ [] := fun e => by
  obtain ⟨x, h1, h2, h3⟩ := lotKs_mem.mp h
  have := lotOf_mem.mpr ⟨h1, h2, h3⟩
  rw [e] at this
  exact List.not_mem_nil this
theorem lotKs_len (ws pre : List Str) : (lotKs ws pre).length ≤ pre.length := by
  have := ded_le ((pre.filter (inL ws)).map fun x => keyOf ws (begS x))
  rw [List.length_map] at this
  exact Nat.le_trans this (List.length_filter_le ..)
/-- a list by its first one and its others -/
def hdtl (l : List Str) : Str × List Str := (l.headD (tx []), l.tail)
theorem hdtl_cons {l : List Str} (h : l ≠ []) : (hdtl l).1 :: (hdtl l).2 = l := by
  cases l with
  | nil => exact absurd rfl h
  | cons x l => rfl
noncomputable def lotsB (ws : List Str) : List (Str × List Str) := (lotKs ws ws).map fun k => hdtl (lotOf ws ws k)
noncomputable def lotsL (ws : List Str) : List (List Str) := (sortT (lotsB ws)).map fun b => b.1 :: b.2
theorem lotsL_mem {ws l : List Str} (h : l ∈ lotsL ws) : ∃ k ∈ lotKs ws ws, l = lotOf ws ws k := by
  obtain ⟨b, hb, rfl⟩ := List.mem_map.mp h
  obtain ⟨k, hk, rfl⟩ := List.mem_map.mp ((sortT_perm _).mem_iff.mp hb)
  exact ⟨k, hk, hdtl_cons (lotOf_some hk)⟩
theorem lotsL_len (ws : List Str) : (lotsL ws).length ≤ ws.length := by
  unfold lotsL
  rw [List.length_map, (sortT_perm _).length_eq]
  unfold lotsB
  rw [List.length_map]
  exact lotKs_len ws ws
theorem lot_sub {ws : List Str} {k : Str} : (lotOf ws ws k).Sublist ws := List.filter_sublist
theorem lot_path {ws : List Str} {k p : Str} (hp : p ∈ plcs ws) (hk : keyOf ws p = k) : ∀ {q : Str}, Rch (nxts ws) p q → Rch (nxts ws) q p → Rch (nxts (lotOf ws ws k)) p q := by
  intro q h
  induction h with
  | refl => exact fun _ => .refl
  | step h1 h2 ih =>
    intro back
    obtain ⟨y, hy, rfl, rfl⟩ := nxts_mem.mp h2
    have fwd : Rch (nxts ws) (begS y) p := (Rch.refl.step h2).trans back
    refine (ih fwd).step (nxts_mem.mpr ⟨y, lotOf_mem.mpr ⟨hy, rchB_iff.mpr (back.trans h1), ?_⟩, rfl, rfl⟩)
    rw [← hk]
    exact (key_same hp h1 fwd).symm
theorem lot_hang {ws : List Str} {k : Str} : Hang (lotOf ws ws k) := by
  have one : ∀ p ∈ plcs (lotOf ws ws k), p ∈ plcs ws ∧ keyOf ws p = k := fun p hp => by
    obtain ⟨x, hx, hxp⟩ := plcs_mem.mp hp
    obtain ⟨h1, h2, h3⟩ := lotOf_mem.mp hx
    have step : Rch (nxts ws) (begS x) (endS x) := Rch.refl.step (nxts_mem.mpr ⟨x, h1, rfl, rfl⟩)
    rcases hxp with rfl | rfl
    · exact ⟨beg_mem h1, h3⟩
    · exact ⟨end_mem h1, by rw [← h3]; exact (key_same (beg_mem h1) step (rchB_iff.mp h2)).symm⟩
  intro p hp q hq
  obtain ⟨p1, p2⟩ := one p hp
  obtain ⟨q1, q2⟩ := one q hq
  obtain ⟨a1, a2⟩ := key_mut p1
  obtain ⟨b1, b2⟩ := key_mut q1
  rw [p2] at a1 a2
  rw [q2] at b1 b2
  exact lot_path p1 p2 (a1.trans b2) (b1.trans a2)
theorem ded_const {k : Str} : ∀ {xs : List Str}, xs ≠ [] → (∀ x ∈ xs, x = k) → ded xs = [k] := fun {xs} hn h => by
  have nd := ded_nd xs
  have mem : ∀ z, z ∈ ded xs ↔ z ∈ xs := fun z => ded_mem
  cases e : ded xs with
  | nil =>
    cases xs with
    | nil => exact absurd rfl hn
    | cons x xs =>
      have := (mem x).mpr (List.mem_cons_self ..)
      rw [e] at this
      exact (List.not_mem_nil this).elim
  | cons a l =>
    rw [e] at nd mem
    have ha : a = k := h a ((mem a).mp (List.mem_cons_self ..))
    cases l with
    | nil => rw [ha]
    | cons b l =>
      have hb : b = k := h b ((mem b).mp (List.mem_cons_of_mem _ (List.mem_cons_self ..)))
      rw [ha, hb] at nd
      exact absurd (List.mem_cons_self ..) (List.nodup_cons.mp nd).1
theorem lots_one {ws : List Str} (hn : ws ≠ []) (hh : Hang ws) : lotsL ws = [ws] := by
  cases ws with
  | nil => exact absurd rfl hn
  | cons x0 ws0 =>
    generalize hws : x0 :: ws0 = ws at *
    have m0 : x0 ∈ ws := by rw [← hws]; exact List.mem_cons_self ..
    have hin : ∀ x ∈ ws, inL ws x = true := fun x hx => rchB_iff.mpr (hh _ (end_mem hx) _ (beg_mem hx))
    have hkey : ∀ x ∈ ws, keyOf ws (begS x) = keyOf ws (begS x0) := fun x hx => key_same (beg_mem hx) (hh _ (beg_mem hx) _ (beg_mem m0)) (hh _ (beg_mem m0) _ (beg_mem hx))
    have hf : ws.filter (inL ws) = ws := List.filter_eq_self.mpr hin
    have hks : lotKs ws ws = [keyOf ws (begS x0)] := by
      unfold lotKs
      rw [hf]
      refine ded_const (fun z => hn (List.map_eq_nil_iff.mp z)) fun k hk => ?_
      obtain ⟨x, hx, rfl⟩ := List.mem_map.mp hk
      exact hkey x hx
    have hl : lotOf ws ws (keyOf ws (begS x0)) = ws := List.filter_eq_self.mpr fun x hx => by rw [hin x hx, decide_eq_true (hkey x hx)]; rfl
    unfold lotsL lotsB
    rw [hks, List.map_cons, List.map_nil, hl]
    unfold sortT
    rw [List.mergeSort_singleton, List.map_cons, List.map_nil, hdtl_cons hn]
end My

/-! walks of windows, closed ones, their texts -/
namespace My
open PySem PySem.Spec PyProof.Rows L2 Evl
/-! ### lists in their order -/
theorem lex_of : ∀ {x y : List Nat} (k : Nat) {a b : Nat}, x[k]? = some a → y[k]? = some b → a < b → (∀ m < k, x[m]? = y[m]?) → x < y
  | [], _, _, _, _, h, _, _, _ => by simp at h
  | _ :: _, [], _, _, _, _, h, _, _ => by simp at h
  | x :: xs, y :: ys, 0, a, b, hx, hy, hlt, _ => by
    simp only [List.getElem?_cons_zero, Option.some.injEq] at hx hy
    subst hx hy
    exact List.Lex.rel hlt
  | x :: xs, y :: ys, k + 1, a, b, hx, hy, hlt, he => by
    have e0 := he 0 (Nat.zero_lt_succ _)
    simp only [List.getElem?_cons_zero, Option.some.injEq] at e0
    subst e0
    exact List.Lex.cons (lex_of k (by simpa using hx) (by simpa using hy) hlt fun m hm => by simpa using he (m + 1) (Nat.succ_lt_succ hm))
theorem lex_at : ∀ {x y : List Nat}, x < y → x.length = y.length → ∃ (k a b : Nat), x[k]? = some a ∧ y[k]? = some b ∧ a < b ∧ ∀ m < k, x[m]? = y[m]?
  | [], [], h, _ => absurd h (List.lt_irrefl _)
  | [], _ :: _, _, e => by simp at e
  | _ :: _, [], _, e => by simp at e
  | x :: xs, y :: ys, h, e => by
    cases h with
    | rel hlt => exact ⟨0, x, y, rfl, rfl, hlt, fun m hm => absurd hm (Nat.not_lt_zero _)⟩
    | cons h =>
      obtain ⟨k, a, b, h1, h2, h3, h4⟩ := lex_at h (by simpa using e)
      refine ⟨k + 1, a, b, by simpa using h1, by simpa using h2, h3, fun m hm => ?_⟩
      cases m with
      | zero => rfl
      | succ m => simpa using h4 m (Nat.lt_of_succ_lt_succ hm)
theorem snoc_nlt {a b : List Nat} {h : Nat} (e : b.length = a.length) (n : ¬ b < a) : ¬ (b ++ [h]) < (a ++ [h]) := fun z => by
  obtain ⟨k, u, v, h1, h2, h3, h4⟩ := lex_at z (by rw [List.length_append, List.length_append, e])
  by_cases hk : k < a.length
  · rw [List.getElem?_append_left (by omega)] at h1
    rw [List.getElem?_append_left hk] at h2
    refine n (lex_of k h1 h2 h3 fun m hm => ?_)
    have := h4 m hm
    rwa [List.getElem?_append_left (by omega), List.getElem?_append_left (by omega)] at this
  · have hk2 : k < a.length + 1 := by
      have := (List.getElem?_eq_some_iff.mp h2).1
      rw [List.length_append] at this
      exact this
    have hk3 : k = a.length := by omega
    rw [List.getElem?_append_right (by omega), hk3, e, Nat.sub_self] at h1
    rw [List.getElem?_append_right (by omega), hk3, Nat.sub_self] at h2
    cases h1
    cases h2
    omega
/-! ### walks -/
def Path (ws : List Str) : Str → List Str → Str → Prop
  | s, [], e => s = e
  | s, w :: r, e => w ∈ ws ∧ begS w = s ∧ Path ws (endS w) r e
section
variable {ws : List Str}
theorem path_app : ∀ {r q : List Str} {s m e : Str}, Path ws s r m → Path ws m q e → Path ws s (r ++ q) e
  | [], _, _, _, _, h1, h2 => by
    cases (h1 : _ = _)
    exact h2
  | _ :: _, _, _, _, _, ⟨a, b, c⟩, h2 => ⟨a, b, path_app c h2⟩
theorem path_split : ∀ {r q : List Str} {s e : Str}, Path ws s (r ++ q) e → ∃ m, Path ws s r m ∧ Path ws m q e
  | [], _, s, _, h => ⟨s, rfl, h⟩
  | _ :: _, _, _, _, ⟨a, b, c⟩ => by
    obtain ⟨m, h1, h2⟩ := path_split c
    exact ⟨m, ⟨a, b, h1⟩, h2⟩
theorem path_end : ∀ {r : List Str} {s m e : Str}, Path ws s r m → Path ws s r e → m = e
  | [], _, _, _, h1, h2 => (h1 : _ = _).symm.trans h2
  | _ :: _, _, _, _, ⟨_, _, c⟩, ⟨_, _, d⟩ => path_end c d
theorem path_snoc {r : List Str} {s e w : Str} : Path ws s (r ++ [w]) e ↔ Path ws s r (begS w) ∧ w ∈ ws ∧ endS w = e := by
  refine ⟨fun h => ?_, fun ⟨h1, h2, h3⟩ => path_app h1 ⟨h2, rfl, h3⟩⟩
  obtain ⟨m, h1, h2, h3, h4⟩ := path_split h
  rw [← h3] at h1
  exact ⟨h1, h2, h4⟩
theorem path_in : ∀ {r : List Str} {s e : Str}, Path ws s r e → ∀ x ∈ r, x ∈ ws
  | [], _, _, _, _, h => (List.not_mem_nil h).elim
  | _ :: _, _, _, ⟨a, _, c⟩, x, h => (List.mem_cons.mp h).elim (fun z => z ▸ a) (path_in c x)
theorem path_mono {vs : List Str} (hs : ∀ x ∈ ws, x ∈ vs) : ∀ {r : List Str} {s e : Str}, Path ws s r e → Path vs s r e
  | [], _, _, h => h
  | _ :: _, _, _, ⟨a, b, c⟩ => ⟨hs _ a, b, path_mono hs c⟩
theorem rch_path {s e : Str} (h : Rch (nxts ws) s e) : ∃ r, Path ws s r e := by
  induction h with
  | refl => exact ⟨[], rfl⟩
  | step _ h2 ih =>
    obtain ⟨r, hr⟩ := ih
    obtain ⟨x, hx, hb, he⟩ := nxts_mem.mp h2
    rw [← hb] at hr
    exact ⟨r ++ [x], path_snoc.mpr ⟨hr, hx, he⟩⟩
/-- the text of a walk: the first letters -/
def hdl (x : Str) : Nat := (sg x).headD 0
def txt (r : List Str) : List Nat := r.map hdl
def Cl (ws : List Str) (r : List Str) : Prop := r ≠ [] ∧ ∃ s, Path ws s r s
theorem cl_cons {w : Str} {r : List Str} : Cl ws (w :: r) ↔ w ∈ ws ∧ Path ws (endS w) r (begS w) := by
  refine ⟨fun ⟨_, s, h1, h2, h3⟩ => ⟨h1, by rw [h2]; exact h3⟩, fun ⟨h1, h2⟩ => ⟨List.cons_ne_nil _ _, begS w, h1, rfl, h2⟩⟩
/-! ### reading a closed walk's text -/
theorem path_at : ∀ {r : List Str} {s e : Str} {i : Nat} {a b : Str}, Path ws s r e → r[i]? = some a → r[i + 1]? = some b → endS a = begS b
  | [], _, _, _, _, _, _, h, _ => by simp at h
  | [_], _, _, _, _, _, _, _, h => by simp at h
  | x :: y :: r, _, _, 0, a, b, ⟨_, _, _, h, _⟩, h1, h2 => by
    simp only [List.getElem?_cons_zero, List.getElem?_cons_succ, Option.some.injEq] at h1 h2
    subst h1 h2
    exact h.symm
  | x :: y :: r, _, _, i + 1, a, b, ⟨_, _, h⟩, h1, h2 => path_at (i := i) h (by simpa using h1) (by simpa using h2)
theorem path_first {r : List Str} {s e a : Str} (h : Path ws s r e) (h1 : r[0]? = some a) : begS a = s := by
  cases r with
  | nil => simp at h1
  | cons x r =>
    simp only [List.getElem?_cons_zero, Option.some.injEq] at h1
    subst h1
    exact h.2.1
theorem path_last : ∀ {r : List Str} {s e a : Str}, Path ws s r e → r[r.length - 1]? = some a → endS a = e
  | [], _, _, _, _, h => by simp at h
  | [x], _, _, a, ⟨_, _, h⟩, h1 => by
    simp at h1
    subst h1
    exact h
  | x :: y :: r, _, _, a, ⟨_, _, h⟩, h1 => path_last h (by simpa using h1)
/-- the i-th window, round and round -/
def rnd1 (r : List Str) (i : Nat) : Str := atS r (i % r.length)
theorem rnd1_next {r : List Str} (h : Cl ws r) (i : Nat) : endS (rnd1 r i) = begS (rnd1 r (i + 1)) := by
  obtain ⟨hn, s, hp⟩ := h
  have hl : 0 < r.length := List.length_pos_iff.mpr hn
  have hm : i % r.length < r.length := Nat.mod_lt _ hl
  obtain ⟨a, ha⟩ : ∃ a, r[i % r.length]? = some a := ⟨_, List.getElem?_eq_getElem hm⟩
  unfold rnd1
  rw [atS_of ha]
  by_cases hlast : i % r.length = r.length - 1
  · have e1 : (i + 1) % r.length = 0 := by
      rw [Nat.add_mod, hlast]
      by_cases h1 : r.length = 1
      · rw [h1]
      · rw [Nat.mod_eq_of_lt (a := 1) (by omega), show r.length - 1 + 1 = r.length by omega, Nat.mod_self]
    rw [e1]
    obtain ⟨b, hb⟩ : ∃ b, r[0]? = some b := ⟨_, List.getElem?_eq_getElem hl⟩
    rw [atS_of hb, path_first hp hb]
    exact path_last hp (by rw [← hlast]; exact ha)
  · have e1 : (i + 1) % r.length = i % r.length + 1 := by
      have h2 : 1 < r.length := by omega
      rw [Nat.add_mod, Nat.mod_eq_of_lt (a := 1) h2, Nat.mod_eq_of_lt (by omega)]
    rw [e1]
    obtain ⟨b, hb⟩ : ∃ b, r[i % r.length + 1]? = some b := ⟨_, List.getElem?_eq_getElem (by omega)⟩
    rw [atS_of hb]
    exact path_at hp ha hb
theorem rnd1_mem {r : List Str} (hn : r ≠ []) (i : Nat) : rnd1 r i ∈ r := by
  have hl : 0 < r.length := List.length_pos_iff.mpr hn
  have hm : i % r.length < r.length := Nat.mod_lt _ hl
  unfold rnd1
  rw [atS_of (List.getElem?_eq_getElem hm)]
  exact List.getElem_mem ..
theorem rnd1_sg {n : Nat} {r : List Str} (h : Cl ws r) (hw : ∀ x ∈ r, x.length = n) : ∀ (j : Nat) (i : Nat), j < n → (sg (rnd1 r i))[j]? = some (hdl (rnd1 r (i + j)))
  | 0, i, hj => by
    have hl : (sg (rnd1 r i)).length = n := hw _ (rnd1_mem h.1 i)
    unfold hdl
    rw [Nat.add_zero]
    cases e : sg (rnd1 r i) with
    | nil =>
      rw [e] at hl
      simp at hl
      omega
    | cons a l => rfl
  | j + 1, i, hj => by
    have hl : (sg (rnd1 r (i + 1))).length = n := hw _ (rnd1_mem h.1 (i + 1))
    have h1 : (sg (rnd1 r i))[j + 1]? = (sg (endS (rnd1 r i)))[j]? := by
      show _ = ((sg (rnd1 r i)).drop 1)[j]?
      rw [List.getElem?_drop, Nat.add_comm]
    have h2 : (sg (begS (rnd1 r (i + 1))))[j]? = (sg (rnd1 r (i + 1)))[j]? := by
      show ((sg (rnd1 r (i + 1))).dropLast)[j]? = _
      rw [List.getElem?_dropLast, if_pos (by omega)]
    rw [h1, rnd1_next h i, h2, rnd1_sg h hw j (i + 1) (by omega), show i + 1 + j = i + (j + 1) by omega]
theorem txt_at {r : List Str} {i : Nat} (h : i < r.length) : (txt r)[i]? = some (hdl (rnd1 r i)) := by
  unfold txt rnd1
  rw [List.getElem?_map, Nat.mod_eq_of_lt h, List.getElem?_eq_getElem h, atS_of (List.getElem?_eq_getElem h)]
  rfl
theorem rnd_txt {n : Nat} {r : List Str} (h : Cl ws r) (hw : ∀ x ∈ r, x.length = n) : rnd n (tx (txt r)) = r := by
  have hl : 0 < r.length := List.length_pos_iff.mpr h.1
  have lt : (txt r).length = r.length := List.length_map ..
  unfold rnd
  show (List.range (txt r).length).map (fun i => tx (cyc (txt r) i n)) = r
  rw [lt]
  conv => rhs; rw [← range_atS r]
  refine List.map_congr_left fun i hi => ?_
  have hi := List.mem_range.mp hi
  have e : rnd1 r i = atS r i := by
    unfold rnd1
    rw [Nat.mod_eq_of_lt hi]
  rw [← e]
  refine sg_inj (List.ext_getElem? fun j => ?_)
  by_cases hj : j < n
  · rw [rnd1_sg h hw j i hj]
    show (cyc (txt r) i n)[j]? = _
    unfold cyc
    rw [List.getElem?_map, List.getElem?_range hj, Option.map_some, lt]
    congr 1
    have hm : (i + j) % r.length < r.length := Nat.mod_lt _ hl
    rw [List.getD_eq_getElem?_getD, txt_at hm]
    unfold rnd1
    rw [Nat.mod_mod]
    rfl
  · have h1 : (sg (rnd1 r i)).length = n := hw _ (rnd1_mem h.1 i)
    rw [List.getElem?_eq_none (l := sg (rnd1 r i)) (by rw [h1]; omega), List.getElem?_eq_none (by show (cyc (txt r) i n).length ≤ j; rw [cyc_len]; omega)]
/-- closed walks that part at a window -/
theorem txt_less {n : Nat} {p q q' : List Str} {c c' : Str} (h : Cl ws (p ++ c :: q)) (h' : Cl ws (p ++ c' :: q')) (hw : ∀ x ∈ ws, x.length = n) (hl : q.length = q'.length) (hc : lt c c') : ¬ txt (p ++ c' :: q') < txt (p ++ c :: q) := by
  have in1 : ∀ x ∈ p ++ c :: q, x.length = n := fun x hx => hw x (path_in h.2.choose_spec x hx)
  have in2 : ∀ x ∈ p ++ c' :: q', x.length = n := fun x hx => hw x (path_in h'.2.choose_spec x hx)
  have L : (p ++ c :: q).length = (p ++ c' :: q').length := by
    rw [List.length_append, List.length_append, List.length_cons, List.length_cons, hl]
  have lc : (sg c).length = (sg c').length := (in1 c (by simp)).trans (in2 c' (by simp)).symm
  obtain ⟨j, a, b, ha, hb, hab, hj⟩ := lex_at hc lc
  have jn : j < n := by
    have := (List.getElem?_eq_some_iff.mp ha).1
    have h2 : (sg c).length = n := in1 c (by simp)
    omega
  have c1 : rnd1 (p ++ c :: q) p.length = c := by
    unfold rnd1
    rw [Nat.mod_eq_of_lt (by rw [List.length_append, List.length_cons]; omega)]
    exact atS_of (by rw [List.getElem?_append_right (Nat.le_refl _), Nat.sub_self]; rfl)
  have c2 : rnd1 (p ++ c' :: q') p.length = c' := by
    unfold rnd1
    rw [Nat.mod_eq_of_lt (by rw [List.length_append, List.length_cons]; omega)]
    exact atS_of (by rw [List.getElem?_append_right (Nat.le_refl _), Nat.sub_self]; rfl)
  have g1 : ∀ m < n, (sg c)[m]? = some (hdl (rnd1 (p ++ c :: q) (p.length + m))) := fun m hm => by
    have := rnd1_sg h in1 m p.length hm
    rwa [c1] at this
  have g2 : ∀ m < n, (sg c')[m]? = some (hdl (rnd1 (p ++ c' :: q') (p.length + m))) := fun m hm => by
    have := rnd1_sg h' in2 m p.length hm
    rwa [c2] at this
  have below : ∀ m, m < p.length + j → m < (p ++ c :: q).length → (txt (p ++ c :: q))[m]? = (txt (p ++ c' :: q'))[m]? := fun m hm hL => by
    by_cases hp : m < p.length
    · unfold txt
      rw [List.getElem?_map, List.getElem?_map, List.getElem?_append_left hp, List.getElem?_append_left hp]
    · obtain ⟨d, rfl⟩ : ∃ d, m = p.length + d := ⟨m - p.length, by omega⟩
      rw [txt_at hL, txt_at (by rw [← L]; exact hL), ← g1 d (by omega), ← g2 d (by omega)]
      exact hj d (by omega)
  by_cases hL : p.length + j < (p ++ c :: q).length
  · have e1 := txt_at hL
    have e2 := txt_at (r := p ++ c' :: q') (i := p.length + j) (by rw [← L]; exact hL)
    rw [← g1 j jn, ha] at e1
    rw [← g2 j jn, hb] at e2
    exact fun z => List.lt_asymm z (lex_of (p.length + j) e1 e2 hab fun m hm => below m hm (by omega))
  · have e : txt (p ++ c :: q) = txt (p ++ c' :: q') := by
      refine List.ext_getElem? fun m => ?_
      by_cases hm : m < (p ++ c :: q).length
      · exact below m (by omega) hm
      · rw [List.getElem?_eq_none (by unfold txt; rw [List.length_map]; omega), List.getElem?_eq_none (by unfold txt; rw [List.length_map, ← L]; omega)]
    rw [e]
    exact List.lt_irrefl _
end
end My

/-! the shortest rounds, the least text of them -/
namespace My
open PySem PySem.Spec PyProof.Rows L2 Evl
theorem ex_least {p : Nat → Prop} (h : ∃ n, p n) : ∃ n, p n ∧ ∀ m, p m → n ≤ m := by
  obtain ⟨n, hn⟩ := h
  induction n using Nat.strongRecOn with
  | _ n ih =>
    by_cases hm : ∃ m, m < n ∧ p m
    · obtain ⟨m, h1, h2⟩ := hm
      exact ih m h1 h2
    · exact ⟨n, hn, fun m pm => Nat.le_of_not_lt fun z => hm ⟨m, z, pm⟩⟩
section
variable {ws : List Str}
/-- a shortest round with the least text -/
structure IsR (ws r : List Str) : Prop where
  cl : Cl ws r
  short : ∀ q, Cl ws q → r.length ≤ q.length
  least : ∀ q, Cl ws q → q.length = r.length → ¬ txt q < txt r
theorem IsR.one {r q : List Str} (h1 : IsR ws r) (h2 : IsR ws q) : txt r = txt q := by
  have l := Nat.le_antisymm (h1.short q h2.cl) (h2.short r h1.cl)
  exact List.le_antisymm (List.not_lt.mp (h1.least q h2.cl l.symm)) (List.not_lt.mp (h2.least r h1.cl l))
open Classical in
noncomputable def firstR (ws : List Str) : Option (List Nat) := if h : ∃ r, IsR ws r then some (txt h.choose) else none
theorem firstR_some {r : List Str} (h : IsR ws r) : firstR ws = some (txt r) := by
  have hx : ∃ r, IsR ws r := ⟨r, h⟩
  unfold firstR
  rw [dif_pos hx]
  exact congrArg some (IsR.one hx.choose_spec h)
theorem firstR_none (h : ∀ r, ¬ Cl ws r) : firstR ws = none := by
  unfold firstR
  rw [dif_neg fun ⟨r, hr⟩ => h r hr.cl]
/-! ### a shortest round is no longer than there are places -/
theorem visits : ∀ (r : List Str) {s e : Str}, Path ws s r e → (∃ vs : List Str, vs.Nodup ∧ vs.length = r.length ∧ ∀ p ∈ vs, p ∈ plcs ws ∧ ∃ q, q ≠ [] ∧ q.length ≤ r.length ∧ Path ws p q e) ∨ ∃ q, Cl ws q ∧ q.length < r.length := by
  intro r
  induction h : r.length generalizing r with
  | zero => exact fun {s e} _ => .inl ⟨[], List.nodup_nil, rfl, fun p hp => (List.not_mem_nil hp).elim⟩
  | succ t ih =>
    intro s e hp
    rcases snoc_cases r with rfl | ⟨r0, w, rfl⟩
    · simp at h
    rw [List.length_append] at h
    have h0 : r0.length = t := by simpa using h
    obtain ⟨h1, h2, rfl⟩ := path_snoc.mp hp
    rcases ih r0 h0 h1 with ⟨vs, nd, hl, hv⟩ | ⟨q, hq, hlq⟩
    · by_cases hb : begS w ∈ vs
      · obtain ⟨_, q, hq, hql, hqp⟩ := hv _ hb
        exact .inr ⟨q, ⟨hq, _, hqp⟩, by omega⟩
      · refine .inl ⟨begS w :: vs, List.nodup_cons.mpr ⟨hb, nd⟩, by rw [List.length_cons, hl], fun p hp => ?_⟩
        rcases List.mem_cons.mp hp with rfl | hp
        · exact ⟨beg_mem h2, [w], List.cons_ne_nil _ _, by simp, h2, rfl, rfl⟩
        · obtain ⟨a, q, hq, hql, hqp⟩ := hv p hp
          exact ⟨a, q ++ [w], by simp, by rw [List.length_append]; simp; omega, path_snoc.mpr ⟨hqp, h2, rfl⟩⟩
    · exact .inr ⟨q, hq, by omega⟩
theorem short_le {r : List Str} (hr : Cl ws r) (hs : ∀ q, Cl ws q → r.length ≤ q.length) : r.length ≤ (ded (plcs ws)).length := by
  obtain ⟨_, s, hp⟩ := hr
  rcases visits r hp with ⟨vs, nd, hl, hv⟩ | ⟨q, hq, hlq⟩
  · rw [← hl]
    exact nodup_len nd fun x hx => ded_mem.mpr (hv x hx).1
  · exact absurd (hs q hq) (by omega)
/-! ### a flood that counts -/
inductive Far (nb : Str → List Str) (g : Str) : Nat → Str → Prop
  | z : Far nb g 0 g
  | s {d : Nat} {p t : Str} : Far nb g d p → t ∈ nb p → Far nb g (d + 1) t
/-- a flood under way: at is what is looked at, i its place; its neighbours of pr are done -/
structure Bfs (nb : Str → List Str) (g : Str) (ks : List Str) (ds : Str → Nat) (i : Nat) : Prop where
  nd : ks.Nodup
  mem : g ∈ ks
  zero : ds g = 0
  snd : ∀ s ∈ ks, Far nb g (ds s) s
  mono : ks.Pairwise fun a b => ds a ≤ ds b
  bnd : ∀ p, ks[i]? = some p → ∀ s ∈ ks, ds s ≤ ds p + 1
  cls : ∀ (j : Nat) (p : Str), j < i → ks[j]? = some p → ∀ t ∈ nb p, t ∈ ks ∧ ds t ≤ ds p + 1
  lim : ∀ s ∈ ks, ds s < ks.length
theorem Bfs.start {nb : Str → List Str} {g : Str} {ds : Str → Nat} (h : ds g = 0) : Bfs nb g [g] ds 0 :=
  ⟨nodup_one g, List.mem_singleton.mpr rfl, h, fun s hs => by rw [List.mem_singleton.mp hs, h]; exact .z, List.pairwise_singleton _ _, fun p _ s hs => by rw [List.mem_singleton.mp hs, h]; omega, fun j p hj => absurd hj (Nat.not_lt_zero _), fun s hs => by rw [List.mem_singleton.mp hs, h]; exact Nat.zero_lt_one⟩
/-- one more is found -/
theorem Bfs.put {nb : Str → List Str} {g : Str} {ks : List Str} {ds : Str → Nat} {i : Nat} {p t : Str} (B : Bfs nb g ks ds i) (hp : ks[i]? = some p) (ht : t ∈ nb p) (hn : t ∉ ks) : Bfs nb g (ks ++ [t]) (fun z => if z = t then ds p + 1 else ds z) i := by
  have pm : p ∈ ks := List.mem_of_getElem? hp
  have old : ∀ s ∈ ks, (if s = t then ds p + 1 else ds s) = ds s := fun s hs => if_neg fun (e : s = t) => hn (by rw [← e]; exact hs)
  have hi : i < ks.length := (List.getElem?_eq_some_iff.mp hp).1
  refine ⟨List.nodup_append.mpr ⟨B.nd, nodup_one t, fun a ha b hb e => hn (by rw [← List.mem_singleton.mp hb, ← e]; exact ha)⟩, List.mem_append_left _ B.mem, ?_, fun s hs => ?_, ?_, fun q hq s hs => ?_, fun j q hj hq u hu => ?_, fun s hs => ?_⟩
  · show (if g = t then ds p + 1 else ds g) = 0
    rw [old g B.mem, B.zero]
  · show Far nb g (if s = t then ds p + 1 else ds s) s
    rcases List.mem_append.mp hs with hs | hs
    · rw [old s hs]
      exact B.snd s hs
    · rw [List.mem_singleton.mp hs, if_pos rfl]
      exact (B.snd p pm).s ht
  · refine List.pairwise_append.mpr ⟨B.mono.imp_of_mem fun {a b} ha hb h => ?_, List.pairwise_singleton _ _, fun a ha b hb => ?_⟩
    · show (if a = t then ds p + 1 else ds a) ≤ (if b = t then ds p + 1 else ds b)
      rw [old a ha, old b hb]
      exact h
    · show (if a = t then ds p + 1 else ds a) ≤ (if b = t then ds p + 1 else ds b)
      rw [old a ha, List.mem_singleton.mp hb, if_pos rfl]
      exact B.bnd p hp a ha
  · have hqp : q = p := by
      rw [List.getElem?_append_left hi, hp] at hq
      exact (Option.some.inj hq).symm
    subst hqp
    show (if s = t then ds q + 1 else ds s) ≤ (if q = t then ds q + 1 else ds q) + 1
    rw [old q pm]
    rcases List.mem_append.mp hs with hs | hs
    · rw [old s hs]
      exact B.bnd q hp s hs
    · rw [List.mem_singleton.mp hs, if_pos rfl]
      exact Nat.le_refl _
  · have hjl : j < ks.length := by omega
    rw [List.getElem?_append_left hjl] at hq
    obtain ⟨h1, h2⟩ := B.cls j q hj hq u hu
    refine ⟨List.mem_append_left _ h1, ?_⟩
    show (if u = t then ds p + 1 else ds u) ≤ (if q = t then ds p + 1 else ds q) + 1
    rw [old u h1, old q (List.mem_of_getElem? hq)]
    exact h2
  · show (if s = t then ds p + 1 else ds s) < (ks ++ [t]).length
    rw [List.length_append]
    have : [t].length = 1 := rfl
    have := B.lim p pm
    rcases List.mem_append.mp hs with hs | hs
    · rw [old s hs]
      have := B.lim s hs
      omega
    · rw [List.mem_singleton.mp hs, if_pos rfl]
      omega
/-- the next one -/
theorem Bfs.next {nb : Str → List Str} {g : Str} {ks : List Str} {ds : Str → Nat} {i : Nat} {p : Str} (B : Bfs nb g ks ds i) (hp : ks[i]? = some p) (h : ∀ t ∈ nb p, t ∈ ks) : Bfs nb g ks ds (i + 1) := by
  refine ⟨B.nd, B.mem, B.zero, B.snd, B.mono, fun q hq s hs => ?_, fun j q hj hq t ht => ?_, B.lim⟩
  · have h1 := B.bnd p hp s hs
    have hi := (List.getElem?_eq_some_iff.mp hp)
    have hi2 := (List.getElem?_eq_some_iff.mp hq)
    have := List.pairwise_iff_getElem.mp B.mono i (i + 1) hi.1 hi2.1 (by omega)
    rw [hi.2, hi2.2] at this
    omega
  · by_cases hji : j = i
    · subst hji
      rw [hp] at hq
      cases hq
      exact ⟨h t ht, B.bnd p hp t (h t ht)⟩
    · exact B.cls j q (by omega) hq t ht
/-- what it has found in the end -/
structure Dst (nb : Str → List Str) (g : Str) (ks : List Str) (ds : Str → Nat) : Prop where
  nd : ks.Nodup
  mem : g ∈ ks
  snd : ∀ s ∈ ks, Far nb g (ds s) s
  least : ∀ d s, Far nb g d s → s ∈ ks ∧ ds s ≤ d
  lim : ∀ s ∈ ks, ds s < ks.length
theorem Bfs.done {nb : Str → List Str} {g : Str} {ks : List Str} {ds : Str → Nat} {i : Nat} (B : Bfs nb g ks ds i) (hi : ks.length ≤ i) : Dst nb g ks ds := by
  refine ⟨B.nd, B.mem, B.snd, fun d s h => ?_, B.lim⟩
  induction h with
  | z => exact ⟨B.mem, by rw [B.zero]; exact Nat.le_refl _⟩
  | s _ ht ih =>
    obtain ⟨h1, h2⟩ := ih
    obtain ⟨j, hj, e⟩ := List.mem_iff_getElem.mp h1
    obtain ⟨h3, h4⟩ := B.cls j _ (by omega) (by rw [List.getElem?_eq_getElem hj, e]) _ ht
    exact ⟨h3, by omega⟩
/-! ### distances of windows -/
def ins (ws : List Str) (p : Str) : List Str := ws.filter fun x => decide (endS x = p)
theorem ins_mem {p x : Str} : x ∈ ins ws p ↔ x ∈ ws ∧ endS x = p := by
  unfold ins
  rw [List.mem_filter, decide_eq_true_iff]
def nbI (ws : List Str) (x : Str) : List Str := ins ws (begS x)
theorem far_path {g s : Str} {d : Nat} (h : Far (nbI ws) g d s) : ∃ r, r.length = d ∧ Path ws (begS s) r (begS g) ∧ (r ++ [g]).head? = some s := by
  induction h with
  | z => exact ⟨[], rfl, rfl, rfl⟩
  | s _ ht ih =>
    obtain ⟨r, h1, h2, h3⟩ := ih
    obtain ⟨h4, h5⟩ := ins_mem.mp ht
    refine ⟨_ :: r, by rw [List.length_cons, h1], ⟨h4, rfl, ?_⟩, rfl⟩
    rw [h5]
    exact h2
theorem path_far {g : Str} : ∀ {r : List Str} {s : Str}, (r ++ [g]).head? = some s → Path ws (begS s) r (begS g) → Far (nbI ws) g r.length s
  | [], s, h, _ => by
    simp at h
    subst h
    exact .z
  | x :: r, s, h, hp => by
    simp at h
    subst h
    obtain ⟨h1, _, h3⟩ := hp
    obtain ⟨y, hy⟩ : ∃ y, (r ++ [g]).head? = some y := by
      cases r with
      | nil => exact ⟨g, rfl⟩
      | cons z r => exact ⟨z, rfl⟩
    have hb : begS y = endS x := by
      cases r with
      | nil =>
        simp at hy
        subst hy
        exact (h3 : _ = _).symm
      | cons z r =>
        simp at hy
        subst hy
        exact h3.2.1
    rw [← hb] at h3
    exact (path_far hy h3).s (ins_mem.mpr ⟨h1, hb.symm⟩)
/-- how long the shortest round through a window is, 0: there is none -/
structure RL (ws : List Str) (w : Str) (l : Nat) : Prop where
  no : l = 0 → ∀ r, ¬ Cl ws (w :: r)
  yes : 0 < l → ∃ r, Cl ws (w :: r) ∧ r.length + 1 = l
  le : ∀ r, Cl ws (w :: r) → l ≤ r.length + 1
theorem round_step {w : Str} {r : List Str} (h : Cl ws (w :: r)) : ∃ s, (r ++ [w]).head? = some s ∧ s ∈ outs ws (endS w) ∧ Far (nbI ws) w r.length s := by
  obtain ⟨hw, hp⟩ := cl_cons.mp h
  cases r with
  | nil => exact ⟨w, rfl, outs_mem.mpr ⟨hw, (hp : _ = _).symm⟩, .z⟩
  | cons x r => 
    refine ⟨x, rfl, outs_mem.mpr ⟨hp.1, hp.2.1⟩, path_far (r := x :: r) rfl ?_⟩
    rw [hp.2.1]
    exact hp
theorem step_round {w s : Str} {d : Nat} (hw : w ∈ ws) (hs : s ∈ outs ws (endS w)) (h : Far (nbI ws) w d s) : ∃ r, Cl ws (w :: r) ∧ r.length = d ∧ (r ++ [w]).head? = some s := by
  obtain ⟨r, h1, h2, h3⟩ := far_path h
  refine ⟨r, cl_cons.mpr ⟨hw, ?_⟩, h1, h3⟩
  rw [(outs_mem.mp hs).2] at h2
  exact h2
theorem rl_of {w : Str} {ks : List Str} {ds : Str → Nat} (hw : w ∈ ws) (D : Dst (nbI ws) w ks ds) {l : Nat}
    (h0 : (∀ s ∈ outs ws (endS w), s ∉ ks) → l = 0) (h1 : ∀ m, (∃ s ∈ outs ws (endS w), s ∈ ks ∧ ds s = m) → (∀ s ∈ outs ws (endS w), s ∈ ks → m ≤ ds s) → l = 1 + m) : RL ws w l := by
  by_cases hn : ∃ m, ∃ s ∈ outs ws (endS w), s ∈ ks ∧ ds s = m
  · obtain ⟨m, ⟨s, hs, hk, hd⟩, hm⟩ := ex_least hn
    have hl := h1 m ⟨s, hs, hk, hd⟩ fun s2 h2 h3 => hm _ ⟨s2, h2, h3, rfl⟩
    obtain ⟨r, r1, r2, _⟩ := step_round hw hs (D.snd s hk)
    refine ⟨fun z => by omega, fun _ => ⟨r, r1, by omega⟩, fun r hr => ?_⟩
    obtain ⟨s2, _, h3, h4⟩ := round_step hr
    obtain ⟨h5, h6⟩ := D.least _ _ h4
    have := hm _ ⟨s2, h3, h5, rfl⟩
    omega
  · have none : ∀ r, ¬ Cl ws (w :: r) := fun r hr => by
      obtain ⟨s2, _, h3, h4⟩ := round_step hr
      exact hn ⟨_, s2, h3, (D.least _ _ h4).1, rfl⟩
    have hl := h0 fun s hs hk => hn ⟨_, s, hs, hk, rfl⟩
    exact ⟨fun _ => none, fun z => by omega, fun r hr => (none r hr).elim⟩
/-! ### the greedy road -/
def Less (R r : List Str) : Prop := ∃ p c c' q q', R = p ++ c :: q ∧ r = p ++ c' :: q' ∧ lt c c'
theorem Less.more {R r : List Str} (h : Less R r) (x : Str) : Less (R ++ [x]) r := by
  obtain ⟨p, c, c', q, q', rfl, h2, h3⟩ := h
  exact ⟨p, c, c', q ++ [x], q', by simp, h2, h3⟩
/-- left windows are lacking -/
structure Gr (ws : List Str) (g : Str) (L : Nat) (R : List Str) (c : Str) (left : Nat) : Prop where
  len : R.length + left = L
  path : Path ws (begS g) R (endS c)
  lst : ∃ R0, R = R0 ++ [c]
  rest : ∃ q, q.length = left ∧ Path ws (endS c) q (begS g)
  cmp : ∀ r, Cl ws r → r.length = L → (∃ q, r = R ++ q) ∨ Less R r
theorem Gr.start {g : Str} {L : Nat} (hg : g ∈ ws) (hr : ∃ r, Cl ws (g :: r) ∧ r.length + 1 = L) (hc : ∀ x r, Cl ws (x :: r) → r.length + 1 = L → g = x ∨ lt g x) : Gr ws g L [g] g (L - 1) := by
  obtain ⟨r, h1, h2⟩ := hr
  refine ⟨by simp; omega, ⟨hg, rfl, rfl⟩, ⟨[], rfl⟩, ⟨r, by omega, (cl_cons.mp h1).2⟩, fun q hq hl => ?_⟩
  cases q with
  | nil => exact absurd rfl hq.1
  | cons x q =>
    rcases hc x q hq hl with rfl | h
    · exact .inl ⟨q, rfl⟩
    · exact .inr ⟨[], g, x, [], q, rfl, rfl, h⟩
/-- the windows that may be next -/
theorem Gr.cand {g c : Str} {L left : Nat} {R ks : List Str} {ds : Str → Nat} (G : Gr ws g L R c (left + 1)) (D : Dst (nbI ws) g ks ds) (short : ∀ q, Cl ws q → L ≤ q.length) {q : List Str} {s : Str} (hq : q.length = left + 1) (hp : Path ws (endS c) q (begS g)) (hs : q.head? = some s) :
    s ∈ outs ws (endS c) ∧ s ∈ ks ∧ ds s = left + 1 := by
  cases q with
  | nil => simp at hs
  | cons x q =>
    simp at hs
    subst hs
    have hpath : Path ws (begS x) (x :: q) (begS g) := by
      rw [hp.2.1]
      exact hp
    have far := path_far (g := g) (r := x :: q) (s := x) rfl hpath
    rw [hq] at far
    obtain ⟨h1, h2⟩ := D.least _ _ far
    refine ⟨outs_mem.mpr ⟨hp.1, hp.2.1⟩, h1, Nat.le_antisymm h2 ?_⟩
    obtain ⟨r, r1, r2, r3⟩ := far_path (D.snd _ h1)
    rw [hp.2.1] at r2
    have cl : Cl ws (R ++ r) := ⟨by obtain ⟨R0, h⟩ := G.lst; rw [h]; simp, begS g, path_app G.path r2⟩
    have := short _ cl
    have l := G.len
    rw [List.length_append, r1] at this
    omega
theorem Gr.some {g c : Str} {L left : Nat} {R ks : List Str} {ds : Str → Nat} (G : Gr ws g L R c (left + 1)) (D : Dst (nbI ws) g ks ds) (short : ∀ q, Cl ws q → L ≤ q.length) : ∃ s ∈ outs ws (endS c), s ∈ ks ∧ ds s = left + 1 := by
  obtain ⟨q, h1, h2⟩ := G.rest
  cases q with
  | nil => simp at h1
  | cons x q =>
    obtain ⟨a, b, d⟩ := G.cand D short h1 h2 rfl
    exact ⟨x, a, b, d⟩
theorem Gr.step {g c c1 : Str} {L left : Nat} {R ks : List Str} {ds : Str → Nat} (G : Gr ws g L R c (left + 1)) (D : Dst (nbI ws) g ks ds) (short : ∀ q, Cl ws q → L ≤ q.length) (h1 : c1 ∈ outs ws (endS c)) (h2 : c1 ∈ ks) (h3 : ds c1 = left + 1)
    (first : ∀ s ∈ outs ws (endS c), s ∈ ks → ds s = left + 1 → c1 = s ∨ lt c1 s) : Gr ws g L (R ++ [c1]) c1 left := by
  obtain ⟨m1, m2⟩ := outs_mem.mp h1
  refine ⟨by have := G.len; rw [List.length_append]; simp; omega, path_snoc.mpr ⟨by rw [m2]; exact G.path, m1, rfl⟩, ⟨R, rfl⟩, ?_, fun r hr hl => ?_⟩
  · have far := D.snd _ h2
    rw [h3] at far
    obtain ⟨q, q1, q2, q3⟩ := far_path far
    cases q with
    | nil => simp at q1
    | cons x q =>
      simp at q3
      subst q3
      exact ⟨q, by simpa using q1, q2.2.2⟩
  · rcases G.cmp r hr hl with ⟨q, rfl⟩ | h
    · obtain ⟨_, s0, hp⟩ := hr
      obtain ⟨m, p1, p2⟩ := path_split hp
      have em : m = endS c := by
        obtain ⟨R0, hR⟩ := G.lst
        have gp := G.path
        cases R with
        | nil => simp at hR
        | cons y R =>
          have e0 : s0 = begS g := p1.2.1.symm.trans gp.2.1
          rw [e0] at p1
          exact path_end p1 gp
      have es : s0 = begS g := by
        obtain ⟨R0, hR⟩ := G.lst
        have gp := G.path
        cases R with
        | nil => simp at hR
        | cons y R => exact p1.2.1.symm.trans gp.2.1
      subst em es
      have ql : q.length = left + 1 := by
        have := G.len
        rw [List.length_append] at hl
        omega
      cases q with
      | nil => simp at ql
      | cons s q =>
        obtain ⟨a, b, d⟩ := G.cand D short ql p2 rfl
        rcases first s a b d with rfl | hlt
        · exact .inl ⟨q, by simp⟩
        · exact .inr ⟨R, c1, s, [], q, rfl, rfl, hlt⟩
    · exact .inr (h.more c1)
theorem Gr.done {g c : Str} {L n : Nat} {R : List Str} (hw : ∀ x ∈ ws, x.length = n) (G : Gr ws g L R c 0) (short : ∀ q, Cl ws q → L ≤ q.length) : IsR ws R := by
  have hn : R ≠ [] := by
    obtain ⟨R0, h⟩ := G.lst
    rw [h]
    simp
  obtain ⟨q, q1, q2⟩ := G.rest
  have q0 : q = [] := List.eq_nil_of_length_eq_zero q1
  subst q0
  have cl : Cl ws R := ⟨hn, begS g, by have := G.path; rw [(q2 : endS c = begS g)] at this; exact this⟩
  have len : R.length = L := G.len
  refine ⟨cl, fun q hq => by rw [len]; exact short q hq, fun r hr hl => ?_⟩
  rcases G.cmp r hr (hl.trans len) with ⟨q, rfl⟩ | ⟨p, d, d', u, u', hR, hr2, hlt⟩
  · have : q = [] := by
      rw [List.length_append] at hl
      exact List.eq_nil_of_length_eq_zero (by omega)
    rw [this, List.append_nil]
    exact List.lt_irrefl _
  · subst hR hr2
    refine txt_less cl hr hw ?_ hlt
    rw [List.length_append, List.length_append, List.length_cons, List.length_cons] at hl
    omega
end
/-- what leads on to the goal -/
theorem Dst.next {ws : List Str} {g c : Str} {ks : List Str} {ds : Str → Nat} (D : Dst (nbI ws) g ks ds) (hw : ∀ s ∈ ks, s ∈ ws) (hc : c ∈ ks) (hn : c ≠ g) : ∃ left p, ds c = left + 1 ∧ p ∈ outs ws (endS c) ∧ p ∈ ks ∧ ds p = left := by
  have h := D.snd c hc
  generalize hd : ds c = d at h
  cases h with
  | z => exact absurd rfl hn
  | s hp ht =>
    rename_i left p
    obtain ⟨h1, h2⟩ := D.least _ _ hp
    obtain ⟨h3, h4⟩ := ins_mem.mp ht
    refine ⟨left, p, rfl, outs_mem.mpr ⟨hw p h1, h4.symm⟩, h1, Nat.le_antisymm h2 ?_⟩
    have := (D.least _ _ ((D.snd p h1).s ht)).2
    omega
theorem RL.one {ws : List Str} {w : Str} {l l' : Nat} (h : RL ws w l) (h' : RL ws w l') : l = l' := by
  have half : ∀ {a b : Nat}, RL ws w a → RL ws w b → a ≤ b := fun {a b} ha hb => by
    by_cases hz : b = 0
    · by_cases haz : a = 0
      · omega
      · obtain ⟨r, hr, _⟩ := ha.yes (by omega)
        exact absurd hr (hb.no hz r)
    · obtain ⟨r, hr, hl⟩ := hb.yes (by omega)
      have := ha.le r hr
      omega
  exact Nat.le_antisymm (half h h') (half h' h)
open Classical in
noncomputable def rlen (ws : List Str) (w : Str) : Nat := if h : ∃ l, RL ws w l then h.choose else 0
theorem rlen_of {ws : List Str} {w : Str} {l : Nat} (h : RL ws w l) : l = rlen ws w := by
  have hx : ∃ l, RL ws w l := ⟨l, h⟩
  unfold rlen
  rw [dif_pos hx]
  exact h.one hx.choose_spec
theorem rlen_rl {ws : List Str} {w : Str} {l : Nat} (h : RL ws w l) : RL ws w (rlen ws w) := by
  rw [← rlen_of h]
  exact h
/-- the text of a shortest round, if there is one -/
noncomputable def frD (ws : List Str) : PyData := match firstR ws with
  | none => .none
  | some l => .str (tx l)
theorem frD_none {ws : List Str} (h : ∀ r, ¬ Cl ws r) : frD ws = .none := by
  unfold frD
  rw [firstR_none h]
theorem frD_some {ws : List Str} {l : List Nat} (h : firstR ws = some l) : frD ws = .str (tx l) := by
  unfold frD
  rw [h]
end My

/-! least texts, step by step; roads to new windows -/
namespace My
open PySem PySem.Spec PyProof.Rows L2 Evl
section
variable {ws : List Str}
/-- the least texts of the walks of t steps from s -/
structure Row (ws : List Str) (s : Str) (t : Nat) (ks : List Str) (f : Str → Str) : Prop where
  nd : ks.Nodup
  mem : ∀ e, e ∈ ks ↔ ∃ r, r.length = t ∧ Path ws s r e
  val : ∀ e ∈ ks, ∃ r, r.length = t ∧ Path ws s r e ∧ sg (f e) = txt r
  least : ∀ e ∈ ks, ∀ r, r.length = t → Path ws s r e → ¬ txt r < sg (f e)
theorem Row.start {s : Str} {f : Str → Str} (h : sg (f s) = []) : Row ws s 0 [s] f := by
  refine ⟨nodup_one s, fun e => ⟨fun he => ⟨[], rfl, (List.mem_singleton.mp he).symm⟩, fun ⟨r, hr, hp⟩ => ?_⟩, fun e he => ⟨[], rfl, (List.mem_singleton.mp he).symm, by rw [List.mem_singleton.mp he, h]; rfl⟩, fun e he r hr _ => ?_⟩
  · have : r = [] := List.eq_nil_of_length_eq_zero hr
    subst this
    exact List.mem_singleton.mpr (hp : s = e).symm
  · rw [List.mem_singleton.mp he, h]
    exact List.not_lt_nil _
/-- the next row, under way: P tells what is done -/
structure Nx (ws : List Str) (ks : List Str) (f : Str → Str) (P : Str → Str → Prop) (ks' : List Str) (f' : Str → Str) : Prop where
  nd : ks'.Nodup
  mem : ∀ e, e ∈ ks' ↔ ∃ p ∈ ks, e ∈ nxts ws p ∧ P p e
  val : ∀ e ∈ ks', ∃ p ∈ ks, e ∈ nxts ws p ∧ P p e ∧ sg (f' e) = sg (f p) ++ [hdl p]
  least : ∀ e ∈ ks', ∀ p ∈ ks, e ∈ nxts ws p → P p e → ¬ (sg (f p) ++ [hdl p]) < sg (f' e)
theorem Nx.start {ks : List Str} {f f' : Str → Str} : Nx ws ks f (fun _ _ => False) [] f' :=
  ⟨List.nodup_nil, fun e => ⟨fun h => (List.not_mem_nil h).elim, fun ⟨_, _, _, h⟩ => h.elim⟩, fun e h => (List.not_mem_nil h).elim, fun e h => (List.not_mem_nil h).elim⟩
theorem Nx.as {ks ks' : List Str} {f f' : Str → Str} {P P' : Str → Str → Prop} (N : Nx ws ks f P ks' f') (h : ∀ p ∈ ks, ∀ e ∈ nxts ws p, (P p e ↔ P' p e)) : Nx ws ks f P' ks' f' :=
  ⟨N.nd, fun e => (N.mem e).trans ⟨fun ⟨p, a, b, c⟩ => ⟨p, a, b, (h p a e b).mp c⟩, fun ⟨p, a, b, c⟩ => ⟨p, a, b, (h p a e b).mpr c⟩⟩,
    fun e he => let ⟨p, a, b, c, d⟩ := N.val e he; ⟨p, a, b, (h p a e b).mp c, d⟩, fun e he p a b c => N.least e he p a b ((h p a e b).mpr c)⟩
theorem Nx.put {ks ks' : List Str} {f f' : Str → Str} {P : Str → Str → Prop} {p e : Str} (N : Nx ws ks f P ks' f') (hp : p ∈ ks) (he : e ∈ nxts ws p) {x : Str} (hx : sg x = sg (f p) ++ [hdl p]) (hn : e ∈ ks' → sg x < sg (f' e)) :
    Nx ws ks f (fun p' e' => P p' e' ∨ (p' = p ∧ e' = e)) (addS ks' e) (fun z => if z = e then x else f' z) := by
  have at1 : ∀ z, z ≠ e → (if z = e then x else f' z) = f' z := fun z h => if_neg h
  refine ⟨addS_nd N.nd e, fun z => ?_, fun z hz => ?_, fun z hz q hq hzq hP => ?_⟩
  · rw [addS_mem, N.mem]
    constructor
    · rintro (⟨q, a, b, c⟩ | rfl)
      · exact ⟨q, a, b, .inl c⟩
      · exact ⟨p, hp, he, .inr ⟨rfl, rfl⟩⟩
    · rintro ⟨q, a, b, c | ⟨rfl, rfl⟩⟩
      · exact .inl ⟨q, a, b, c⟩
      · exact .inr rfl
  · by_cases h : z = e
    · refine ⟨p, hp, by rw [h]; exact he, .inr ⟨rfl, h⟩, ?_⟩
      show sg (if z = e then x else f' z) = _
      rw [if_pos h, hx]
    · rcases addS_mem.mp hz with hz | hz
      · obtain ⟨q, a, b, c, d⟩ := N.val z hz
        refine ⟨q, a, b, .inl c, ?_⟩
        show sg (if z = e then x else f' z) = _
        rw [at1 z h, d]
      · exact absurd hz h
  · show ¬ _ < sg (if z = e then x else f' z)
    by_cases h : z = e
    · rw [if_pos h]
      rcases hP with hP | ⟨hq2, _⟩
      · have hz2 : z ∈ ks' := (N.mem z).mpr ⟨q, hq, hzq, hP⟩
        have a := N.least z hz2 q hq hzq hP
        have b := hn (by rw [← h]; exact hz2)
        rw [← h] at b
        exact fun y => a (List.lt_trans y b)
      · rw [hq2, hx]
        exact List.lt_irrefl _
    · rw [at1 z h]
      rcases hP with hP | ⟨_, h2⟩
      · exact N.least z ((N.mem z).mpr ⟨q, hq, hzq, hP⟩) q hq hzq hP
      · exact absurd h2 h
theorem Nx.skip {ks ks' : List Str} {f f' : Str → Str} {P : Str → Str → Prop} {p e : Str} (N : Nx ws ks f P ks' f') (hk : e ∈ ks') (hn : ¬ (sg (f p) ++ [hdl p]) < sg (f' e)) :
    Nx ws ks f (fun p' e' => P p' e' ∨ (p' = p ∧ e' = e)) ks' f' := by
  refine ⟨N.nd, fun z => ?_, fun z hz => ?_, fun z hz q hq hzq hP => ?_⟩
  · rw [N.mem]
    constructor
    · rintro ⟨q, a, b, c⟩
      exact ⟨q, a, b, .inl c⟩
    · rintro ⟨q, a, b, c | ⟨rfl, rfl⟩⟩
      · exact ⟨q, a, b, c⟩
      · exact (N.mem z).mp hk
  · obtain ⟨q, a, b, c, d⟩ := N.val z hz
    exact ⟨q, a, b, .inl c, d⟩
  · rcases hP with hP | ⟨rfl, rfl⟩
    · exact N.least z hz q hq hzq hP
    · exact hn
theorem hdl_beg {x : Str} (h : 2 ≤ x.length) : hdl (begS x) = hdl x := by
  have h2 : 2 ≤ (sg x).length := h
  unfold hdl
  show ((sg x).dropLast).headD 0 = _
  match hx : sg x with
  | [] => rw [hx] at h2; simp at h2
  | [_] => rw [hx] at h2; simp at h2
  | a :: b :: l => rfl
theorem txt_snoc (r : List Str) (w : Str) : txt (r ++ [w]) = txt r ++ [hdl w] := List.map_append
theorem txt_len (r : List Str) : (txt r).length = r.length := List.length_map ..
theorem Nx.row {s : Str} {t : Nat} {ks ks' : List Str} {f f' : Str → Str} {P : Str → Str → Prop} (hw : ∀ x ∈ ws, 2 ≤ x.length) (R : Row ws s t ks f) (N : Nx ws ks f P ks' f') (all : ∀ p ∈ ks, ∀ e ∈ nxts ws p, P p e) : Row ws s (t + 1) ks' f' := by
  have dec : ∀ (r : List Str) (e : Str), r.length = t + 1 → Path ws s r e → ∃ r0 w, r = r0 ++ [w] ∧ r0.length = t ∧ Path ws s r0 (begS w) ∧ w ∈ ws ∧ endS w = e ∧ begS w ∈ ks ∧ e ∈ nxts ws (begS w) := fun r e hr hp => by
    rcases snoc_cases r with rfl | ⟨r0, w, rfl⟩
    · simp at hr
    obtain ⟨h1, h2, h3⟩ := path_snoc.mp hp
    have hl : r0.length = t := by simpa using hr
    exact ⟨r0, w, rfl, hl, h1, h2, h3, (R.mem _).mpr ⟨r0, hl, h1⟩, nxts_mem.mpr ⟨w, h2, rfl, h3⟩⟩
  refine ⟨N.nd, fun e => ⟨fun he => ?_, fun ⟨r, hr, hp⟩ => ?_⟩, fun e he => ?_, fun e he r hr hp => ?_⟩
  · obtain ⟨p, hp, hep, _⟩ := (N.mem e).mp he
    obtain ⟨r, r1, r2⟩ := (R.mem p).mp hp
    obtain ⟨w, w1, w2, w3⟩ := nxts_mem.mp hep
    exact ⟨r ++ [w], by rw [List.length_append, r1]; rfl, path_snoc.mpr ⟨by rw [w2]; exact r2, w1, w3⟩⟩
  · obtain ⟨r0, w, _, _, _, _, _, h1, h2⟩ := dec r e hr hp
    exact (N.mem e).mpr ⟨_, h1, h2, all _ h1 _ h2⟩
  · obtain ⟨p, hp, hep, _, hv⟩ := N.val e he
    obtain ⟨r, r1, r2, r3⟩ := R.val p hp
    obtain ⟨w, w1, w2, w3⟩ := nxts_mem.mp hep
    refine ⟨r ++ [w], by rw [List.length_append, r1]; rfl, path_snoc.mpr ⟨by rw [w2]; exact r2, w1, w3⟩, ?_⟩
    rw [hv, txt_snoc, r3, ← w2, hdl_beg (hw w w1)]
  · obtain ⟨r0, w, rfl, h0, h1, h2, h3, h4, h5⟩ := dec r e hr hp
    have a := N.least e he _ h4 h5 (all _ h4 _ h5)
    have b := R.least _ h4 r0 h0 h1
    obtain ⟨q, q1, _, q3⟩ := R.val _ h4
    rw [hdl_beg (hw w h2)] at a
    rw [txt_snoc]
    refine sg_le_trans2 a (snoc_nlt ?_ b)
    rw [q3, txt_len, txt_len, q1, h0]
where
  sg_le_trans2 {a b c : List Nat} (h1 : ¬ b < a) (h2 : ¬ c < b) : ¬ c < a := fun h => List.not_lt.mpr (List.le_trans (List.not_lt.mp h1) (List.not_lt.mp h2)) h
/-- a round of t steps is found, none shorter is there -/
theorem dp_some {t : Nat} {K : Str → List Str} {F : Str → Str → Str} (hR : ∀ s ∈ plcs ws, Row ws s t (K s) (F s)) (ht : 1 ≤ t) (hno : ∀ r, Cl ws r → t ≤ r.length) {s : Str} (hs : s ∈ plcs ws) (hk : s ∈ K s)
    (least : ∀ z ∈ plcs ws, z ∈ K z → ¬ sg (F z z) < sg (F s s)) : firstR ws = some (sg (F s s)) := by
  obtain ⟨r, r1, r2, r3⟩ := (hR s hs).val s hk
  have cl : Cl ws r := ⟨fun z => by rw [z] at r1; simp at r1; omega, s, r2⟩
  have is : IsR ws r := by
    refine ⟨cl, fun q hq => by rw [r1]; exact hno q hq, fun q hq hl z => ?_⟩
    obtain ⟨qn, s2, hp⟩ := hq
    have hs2 : s2 ∈ plcs ws := by
      cases q with
      | nil => exact absurd rfl qn
      | cons x q => exact hp.2.1 ▸ beg_mem hp.1
    have R2 := hR s2 hs2
    have k2 : s2 ∈ K s2 := (R2.mem s2).mpr ⟨q, hl.trans r1, hp⟩
    have a := R2.least s2 k2 q (hl.trans r1) hp
    have b := least s2 hs2 k2
    rw [r3] at b
    exact List.not_lt.mpr (List.le_trans (List.not_lt.mp b) (List.not_lt.mp a)) z
  rw [r3]
  exact firstR_some is
theorem dp_no {t : Nat} {K : Str → List Str} {F : Str → Str → Str} (hR : ∀ s ∈ plcs ws, Row ws s t (K s) (F s)) (hno : ∀ r, Cl ws r → t ≤ r.length) (none : ∀ s ∈ plcs ws, s ∉ K s) : ∀ r, Cl ws r → t + 1 ≤ r.length := fun r hr => by
  have h := hno r hr
  by_cases e : r.length = t
  · obtain ⟨qn, s2, hp⟩ := hr
    have hs2 : s2 ∈ plcs ws := by
      cases r with
      | nil => exact absurd rfl qn
      | cons x q => exact hp.2.1 ▸ beg_mem hp.1
    exact absurd (((hR s2 hs2).mem s2).mpr ⟨r, e, hp⟩) (none s2 hs2)
  · omega
/-- the same, row by row -/
theorem dp_some2 {t : Nat} {s : Str} {ks : List Str} {f : Str → Str} (R : Row ws s t ks f) (hk : s ∈ ks) (ht : 1 ≤ t) (hno : ∀ r, Cl ws r → t ≤ r.length)
    (least : ∀ z ∈ plcs ws, ∃ ks' f', Row ws z t ks' f' ∧ (z ∈ ks' → ¬ sg (f' z) < sg (f s))) : firstR ws = some (sg (f s)) := by
  obtain ⟨r, r1, r2, r3⟩ := R.val s hk
  have cl : Cl ws r := ⟨fun z => by rw [z] at r1; simp at r1; omega, s, r2⟩
  have is : IsR ws r := by
    refine ⟨cl, fun q hq => by rw [r1]; exact hno q hq, fun q hq hl z => ?_⟩
    obtain ⟨qn, s2, hp⟩ := hq
    have hs2 : s2 ∈ plcs ws := by
      cases q with
      | nil => exact absurd rfl qn
      | cons x q => exact hp.2.1 ▸ beg_mem hp.1
    obtain ⟨ks', f', R2, hl2⟩ := least s2 hs2
    have k2 : s2 ∈ ks' := (R2.mem s2).mpr ⟨q, hl.trans r1, hp⟩
    have a := R2.least s2 k2 q (hl.trans r1) hp
    have b := hl2 k2
    rw [r3] at b
    exact List.not_lt.mpr (List.le_trans (List.not_lt.mp b) (List.not_lt.mp a)) z
  rw [r3]
  exact firstR_some is
theorem dp_no2 {t : Nat} (hR : ∀ s ∈ plcs ws, ∃ ks f, Row ws s t ks f ∧ s ∉ ks) (hno : ∀ r, Cl ws r → t ≤ r.length) : ∀ r, Cl ws r → t + 1 ≤ r.length := fun r hr => by
  have h := hno r hr
  by_cases e : r.length = t
  · obtain ⟨qn, s2, hp⟩ := hr
    have hs2 : s2 ∈ plcs ws := by
      cases r with
      | nil => exact absurd rfl qn
      | cons x q => exact hp.2.1 ▸ beg_mem hp.1
    obtain ⟨ks, f, R, hk⟩ := hR s2 hs2
    exact absurd ((R.mem s2).mpr ⟨r, e, hp⟩) hk
  · omega
theorem dp_none (hno : ∀ r, Cl ws r → (ded (plcs ws)).length + 1 ≤ r.length) : firstR ws = none := by
  refine firstR_none fun r hr => ?_
  obtain ⟨n, ⟨q, hq, hl⟩, hm⟩ := ex_least (p := fun n => ∃ q, Cl ws q ∧ q.length = n) ⟨r.length, r, hr, rfl⟩
  have := short_le hq fun u hu => by rw [hl]; exact hm _ ⟨u, hu, rfl⟩
  have := hno q hq
  omega
/-! ### a road to a new window -/
inductive Pth (pr : Str → Str) (w : Str) : Str → List Str → Prop
  | nil : Pth pr w w []
  | snoc {s : Str} {l : List Str} : s ≠ w → Pth pr w (pr s) l → Pth pr w s (l ++ [s])
theorem Pth.inv {pr : Str → Str} {w s : Str} {l : List Str} (h : Pth pr w s l) : (s = w ∧ l = []) ∨ ∃ l1, l = l1 ++ [s] ∧ s ≠ w ∧ Pth pr w (pr s) l1 := by
  cases h with
  | nil => exact .inl ⟨rfl, rfl⟩
  | snoc hn hp => exact .inr ⟨_, rfl, hn, hp⟩
theorem Pth.mono {pr pr' : Str → Str} {w : Str} {ks : List Str} (h : ∀ z ∈ ks, pr' z = pr z) : ∀ {s : Str} {l : List Str}, Pth pr w s l → (∀ z ∈ l, z ∈ ks) → Pth pr' w s l := by
  intro s l p
  induction p with
  | nil => exact fun _ => .nil
  | snoc hn _ ih =>
    intro hl
    refine .snoc hn ?_
    rw [h _ (hl _ (by simp))]
    exact ih fun z hz => hl z (List.mem_append_left _ hz)
/-- found from the window w on: all of them are taken; i: the place that is looked at -/
structure Nw (ws tk : List Str) (w : Str) (ks : List Str) (pr : Str → Str) (i : Nat) : Prop where
  nd : ks.Nodup
  mem : w ∈ ks
  sub : ∀ s ∈ ks, s ∈ ws ∧ s ∈ tk
  chn : ∀ s ∈ ks, ∃ l, Pth pr w s l ∧ (∀ z ∈ l, z ∈ ks) ∧ l.length < ks.length ∧ Path ws (endS w) l (endS s)
  cls : ∀ (j : Nat) (p : Str), j < i → ks[j]? = some p → ∀ t ∈ outs ws (endS p), t ∈ ks
theorem Nw.start {tk : List Str} {w : Str} {pr : Str → Str} (hw : w ∈ ws) (ht : w ∈ tk) : Nw ws tk w [w] pr 0 :=
  ⟨nodup_one w, List.mem_singleton.mpr rfl, fun s hs => by rw [List.mem_singleton.mp hs]; exact ⟨hw, ht⟩, fun s hs => by rw [List.mem_singleton.mp hs]; exact ⟨[], .nil, fun z hz => (List.not_mem_nil hz).elim, Nat.zero_lt_one, rfl⟩, fun j p hj => absurd hj (Nat.not_lt_zero _)⟩
theorem Nw.road {tk ks : List Str} {w p t : Str} {pr : Str → Str} {i : Nat} (N : Nw ws tk w ks pr i) (hp : p ∈ ks) (ht : t ∈ outs ws (endS p)) (hn : t ∉ ks) :
    ∃ l, Pth (fun z => if z = t then p else pr z) w t (l ++ [t]) ∧ (∀ z ∈ l, z ∈ ks) ∧ l.length < ks.length ∧ Path ws (endS w) (l ++ [t]) (endS t) := by
  obtain ⟨l, l1, l2, l3, l4⟩ := N.chn p hp
  have old : ∀ z ∈ ks, (if z = t then p else pr z) = pr z := fun z hz => if_neg fun (e : z = t) => hn (by rw [← e]; exact hz)
  obtain ⟨h1, h2⟩ := outs_mem.mp ht
  refine ⟨l, .snoc (fun e => hn (by rw [e]; exact N.mem)) ?_, l2, l3, path_snoc.mpr ⟨by rw [h2]; exact l4, h1, rfl⟩⟩
  show Pth _ w (if t = t then p else pr t) l
  rw [if_pos rfl]
  exact Pth.mono old l1 l2
theorem Nw.put {tk ks : List Str} {w p t : Str} {pr : Str → Str} {i : Nat} (N : Nw ws tk w ks pr i) (hi : i ≤ ks.length) (hp : p ∈ ks) (ht : t ∈ outs ws (endS p)) (hn : t ∉ ks) (hk : t ∈ tk) : Nw ws tk w (ks ++ [t]) (fun z => if z = t then p else pr z) i := by
  have old : ∀ z ∈ ks, (if z = t then p else pr z) = pr z := fun z hz => if_neg fun (e : z = t) => hn (by rw [← e]; exact hz)
  refine ⟨List.nodup_append.mpr ⟨N.nd, nodup_one t, fun a ha b hb e => hn (by rw [← List.mem_singleton.mp hb, ← e]; exact ha)⟩, List.mem_append_left _ N.mem, fun s hs => ?_, fun s hs => ?_, fun j q hj hq u hu => ?_⟩
  · rcases List.mem_append.mp hs with hs | hs
    · exact N.sub s hs
    · rw [List.mem_singleton.mp hs]
      exact ⟨(outs_mem.mp ht).1, hk⟩
  · rcases List.mem_append.mp hs with hs | hs
    · obtain ⟨l, l1, l2, l3, l4⟩ := N.chn s hs
      exact ⟨l, Pth.mono old l1 l2, fun z hz => List.mem_append_left _ (l2 z hz), by rw [List.length_append]; omega, l4⟩
    · rw [List.mem_singleton.mp hs]
      obtain ⟨l, l1, l2, l3, l4⟩ := N.road hp ht hn
      refine ⟨l ++ [t], l1, fun z hz => ?_, by rw [List.length_append, List.length_append]; simp; exact l3, l4⟩
      rcases List.mem_append.mp hz with hz | hz
      · exact List.mem_append_left _ (l2 z hz)
      · exact List.mem_append_right _ hz
  · rw [List.getElem?_append_left (by omega)] at hq
    exact List.mem_append_left _ (N.cls j q hj hq u hu)
theorem Nw.next {tk ks : List Str} {w p : Str} {pr : Str → Str} {i : Nat} (N : Nw ws tk w ks pr i) (hp : ks[i]? = some p) (h : ∀ t ∈ outs ws (endS p), t ∈ ks) : Nw ws tk w ks pr (i + 1) :=
  ⟨N.nd, N.mem, N.sub, N.chn, fun j q hj hq t ht => by
    by_cases hji : j = i
    · subst hji
      rw [hp] at hq
      cases hq
      exact h t ht
    · exact N.cls j q (by omega) hq t ht⟩
theorem Nw.over {tk ks : List Str} {w : Str} {pr : Str → Str} {i : Nat} (N : Nw ws tk w ks pr i) (hi : ks.length ≤ i) (hh : Hang ws) (nd : ws.Nodup) : ws.length ≤ tk.length := by
  have hw : w ∈ ws := (N.sub w N.mem).1
  have cls : ∀ p ∈ ks, ∀ t ∈ outs ws (endS p), t ∈ ks := fun p hp t ht => by
    obtain ⟨j, hj, e⟩ := List.mem_iff_getElem.mp hp
    exact N.cls j p (by omega) (by rw [List.getElem?_eq_getElem hj, e]) t ht
  have rch : ∀ q, Rch (nxts ws) (endS w) q → ∃ s ∈ ks, endS s = q := fun q h => by
    induction h with
    | refl => exact ⟨w, N.mem, rfl⟩
    | step _ h2 ih =>
      obtain ⟨s, hs, rfl⟩ := ih
      obtain ⟨y, hy, hb, he⟩ := nxts_mem.mp h2
      exact ⟨y, cls s hs y (outs_mem.mpr ⟨hy, hb⟩), he⟩
  refine nodup_len nd fun x hx => ?_
  obtain ⟨s, hs, he⟩ := rch _ (hh _ (end_mem hw) _ (beg_mem hx))
  exact (N.sub x (cls s hs x (outs_mem.mpr ⟨hx, he.symm⟩))).2
end
end My

/-! dicts walked by their keys; dicts made at once; lists of things made at once -/
namespace My
open PySem PySem.Spec PyProof.Rows L2 Evl
theorem src_keys {Hb : Hp} {d : Addr} {o : Obj} {f : Str → V} {ks : List Str} (h : Hb d = some (.frz o (.dK (fkv f ks)))) : Src (Itk d o (fkv f ks)) Hb ks.length (fun i x _ => ∃ z, ks[i]? = some z ∧ x = .str z) := by
  have l : (fkv f ks).length = ks.length := fkv_len f ks
  refine ⟨fun i H2 e hi => ⟨e _ _ h, by rw [l]; exact hi⟩, fun i H2 e hi => ⟨e _ _ h, by rw [l]; exact hi⟩, fun i H2 x H3 e hi y => ?_⟩
  obtain ⟨rfl, k, v, hk, rfl⟩ := y
  refine ⟨Ex.refl _, ?_⟩
  unfold fkv at hk
  rw [List.getElem?_map] at hk
  cases hz : ks[i]? with
  | none =>
    rw [hz] at hk
    cases hk
  | some z =>
    rw [hz] at hk
    cases hk
    exact ⟨z, rfl, rfl⟩
/-- a thing locked, and set free again -/
theorem unlock_ex {H H' : Hp} {d : Addr} {u o : HO} (h : H d = some u) (e : Ex (upd H d o) H') : Ex H (upd H' d u) := fun q w hq => by
  by_cases hd : q = d
  · rw [hd, upd_same]
    rw [hd, h] at hq
    exact hq
  · rw [upd_ne hd]
    exact e q w (by rw [upd_ne hd]; exact hq)
theorem lock_at {H : Hp} {d q : Addr} {u o w : HO} (h : H d = some u) (hq : H q = some w) (n : w ≠ u) : (upd H d o) q = some w := by
  rw [upd_ne fun e => n (by rw [e, h] at hq; exact (Option.some.inj hq).symm)]
  exact hq
section
variable {K : PySem.W.Frag} {H : Hp} {p : Addr} {o : Obj} {kvs : List (Key × V)} {u : HO}
theorem sqT_un (hp : H p = some (.frz o (.dK kvs))) {a : Addr} {xs : List V} (h : SqT K H a xs) : SqT K (upd H p u) a xs := by
  have ne : ∀ {w : HO}, H a = some w → w ≠ .frz o (.dK kvs) → (upd H p u) a = some w := fun {w} hw n => by
    rw [upd_ne fun e => n (by rw [e, hp] at hw; exact (Option.some.inj hw).symm)]
    exact hw
  unfold SqT at h ⊢
  first
    | exact h.elim (fun q => .inl (ne q (fun z => nomatch z))) fun q => .inr q
    | exact h.elim (fun q => .inl (q.elim (fun q => .inl (ne q (fun z => nomatch z))) fun ⟨ob, q⟩ => .inr ⟨ob, ne q (fun z => by cases z)⟩)) fun q => .inr q
theorem sqL_un (hp : H p = some (.frz o (.dK kvs))) {a : Addr} {xs : List V} (h : SqL K H a xs) : SqL K (upd H p u) a xs := by
  have ne : ∀ {w : HO}, H a = some w → w ≠ .frz o (.dK kvs) → (upd H p u) a = some w := fun {w} hw n => by
    rw [upd_ne fun e => n (by rw [e, hp] at hw; exact (Option.some.inj hw).symm)]
    exact hw
  unfold SqL at h ⊢
  first
    | exact h.elim (fun q => .inl (q.elim (fun q => .inl (ne q (fun z => nomatch z))) fun ⟨ob, q⟩ => .inr ⟨ob, ne q (fun z => by cases z)⟩)) fun q => .inr q
    | exact h.elim (fun q => .inl (ne q (fun z => nomatch z))) fun q => .inr q
mutual
theorem dp_un (hp : H p = some (.frz o (.dK kvs))) : ∀ {v : V} {d : PyData}, Dp K H v d → Dp K (upd H p u) v d
  | _, _, .non => .non
  | _, _, .bl b => .bl b
  | _, _, .int i => .int i
  | _, _, .str x => .str x
  | _, _, .lst h ha => .lst (sqL_un hp h) (dpa_un hp ha)
  | _, _, .tup h ha => .tup (sqT_un hp h) (dpa_un hp ha)
theorem dpa_un (hp : H p = some (.frz o (.dK kvs))) : ∀ {vs : List V} {ds : List PyData}, DpAll K H vs ds → DpAll K (upd H p u) vs ds
  | _, _, .nil => .nil
  | _, _, .cons h t => .cons (dp_un hp h) (dpa_un hp t)
end
end
/-! ### a comprehension over a dict's keys -/
theorem lk_lc {K : PySem.W.Frag} {H : Hp} {d : Addr} {f : Str → V} {ks : List Str} {td : TE} {g : TG} {tt : TT} {te : TE} {vs : List Nat} {σ : L2.St} {Q : VK} (hd : H d = some (.dK (fkv f ks))) (hn : ks.length ≤ 1000000)
    (htd : ∀ (od : Obj) (R : VK), R (.ref d) (upd H d (.frz od (.dK (fkv f ks)))) → td σ (upd H d (.frz od (.dK (fkv f ks)))) R) (p : Str → Bool) (F : Str → PyData) (nl : ∀ z ∈ ks, noList (F z) = true)
    (hs : ∀ od : Obj, LcsTurn K (upd H d (.frz od (.dK (fkv f ks)))) ks g tt te vs σ p F) (q : ∀ D H' acc, Ex H H' → H D = none → H' D = some (.lst acc) → DpAll K H' acc ((ks.filter p).map F) → Q (.ref D) H') :
    tLockE (tLc (iKeys td) g tt te vs) σ H Q := by
  refine ⟨d, _, hd, trivial, fun od => htd od _ ⟨d, od, rfl, .inl ⟨_, upd_same, fun D np => ?_⟩⟩⟩
  have nD : H D = none := by
    rw [upd_ne fun e => by rw [e, upd_same] at np; cases np] at np
    exact np
  refine lc_src (K := K) (src_keys upd_same) hn (fun i => p (atS ks i)) (fun i => F (atS ks i)) (fun i hi => ?_) np (fun i x H2 Y Z hi e it hy hno => ?_) (fun H' acc e hD ha => ?_)
  · rw [atS_of (List.getElem?_eq_getElem hi)]
    exact nl _ (List.getElem_mem hi)
  · obtain ⟨z, hz, rfl⟩ := it
    rw [atS_of hz] at hy hno
    exact hs od z H2 Y Z (List.mem_of_getElem? hz) e hy hno
  · rw [givenS] at ha
    have hd' := e _ _ upd_same
    have Dd : D ≠ d := fun z => by
      rw [z, hd] at nD
      cases nD
    exact ⟨hd', q D _ acc (unlock_ex hd e) nD (by rw [upd_ne Dd]; exact hD) (dpa_un hd' ha)⟩
/-- a for over a dict's keys; what Pv says is of the heap with the dict locked -/
theorem lk_fo {H : Hp} {d : Addr} {f : Str → V} {ks : List Str} {td : TE} {g : TG} {tb : TS} {σ : L2.St} {D : Ends} (hd : H d = some (.dK (fkv f ks)))
    (htd : ∀ (od : Obj) (R : VK), R (.ref d) (upd H d (.frz od (.dK (fkv f ks)))) → td σ (upd H d (.frz od (.dK (fkv f ks)))) R) (Pv : Obj → Nat → L2.St → Hp → Prop) (h0 : ∀ od, Pv od 0 σ (upd H d (.frz od (.dK (fkv f ks)))))
    (hE : ∀ od i σ H', Pv od i σ H' → H' d = some (.frz od (.dK (fkv f ks))))
    (hs : ∀ (od : Obj) (i : Nat) (z : Str) (σ' : L2.St) (H' : Hp), ks[i]? = some z → Pv od i σ' H' → g (.str z) σ' H' fun σ2 H3 => tb { nx := Pv od (i + 1), ct := Pv od (i + 1), bk := fun σ3 H4 => H4 d = some (.frz od (.dK (fkv f ks))) ∧ D.nx σ3 (upd H4 d (.dK (fkv f ks))), rt := fun v H4 => H4 d = some (.frz od (.dK (fkv f ks))) ∧ D.rt v (upd H4 d (.dK (fkv f ks))) } σ2 H3)
    (he : ∀ od σ' H', Pv od ks.length σ' H' → D.nx σ' (upd H' d (.dK (fkv f ks)))) : tLock (tFor (iKeys td) g tb) D σ H := by
  refine ⟨d, _, hd, trivial, fun od => htd od _ ⟨d, od, rfl, .inl ⟨_, upd_same, ?_⟩⟩⟩
  have l : (fkv f ks).length = ks.length := fkv_len f ks
  refine ⟨fun i m σ H => m = ks.length - i ∧ i ≤ ks.length ∧ Pv od i σ H, ⟨_, rfl, Nat.zero_le _, h0 od⟩, ?_⟩
  rintro i m σ1 H1 ⟨rfl, hi, pv⟩
  have hf := hE od i σ1 H1 pv
  by_cases hlt : i < ks.length
  · refine .inr ⟨⟨hf, by rw [l]; exact hlt⟩, Pv od (i + 1), fun σ' H' p' => ⟨ks.length - (i + 1), by omega, rfl, hlt, p'⟩, fun x H' y => ?_⟩
    obtain ⟨rfl, k, v, hk, rfl⟩ := y
    have hz : ks[i]? = some ks[i] := List.getElem?_eq_getElem hlt
    unfold fkv at hk
    rw [List.getElem?_map, hz] at hk
    cases hk
    exact hs od i _ σ1 H' hz pv
  · obtain rfl : i = ks.length := by omega
    exact .inl ⟨⟨hf, by rw [l]; exact Nat.le_refl _⟩, hf, he od σ1 H1 pv⟩
/-! ### a dict made at once, its values new things -/
abbrev DcGo (J : It) (H1 : Hp) (g : TG) (tt : TT) (tk tv : TE) (vs : List Nat) (σ : L2.St) (D : Addr) (Qd : Hp → Prop) : Prop := ∃ W : Nat → Nat → Hp → Prop, (∃ m, W 0 m (upd H1 D (.dK []))) ∧ ∀ i m H, W i m H →
  (J.stop i H ∧ Qd H) ∨ (J.go i H ∧ ∃ Nx : Hp → Prop, (∀ H', Nx H' → ∃ m', m' < m ∧ W (i + 1) m' H') ∧ ∀ x H', J.yld i H x H' → g x (wipe σ vs) H' fun σ2 H2 => wipe σ2 vs = wipe σ vs ∧ tt σ2 H2 fun b H3 =>
    if b = true then tk σ2 H3 fun y H4 => tv σ2 H4 fun z H5 => ∃ kvs k, y = kV k ∧ H5 D = some (.dK kvs) ∧ kvs.length < sizeLine ∧ Nx (upd H5 D (.dK (putK kvs k z))) else Nx H3)
theorem wkv_put {rs : Str → Addr} {ks : List Str} {k : Str} {a : Addr} : putK (wkv rs ks) (kS k) (V.ref a) = wkv (fun z => if z = k then a else rs z) (addS ks k) := by
  have h := fkv_put (f := fun z => V.ref (rs z)) (ks := ks) (k := k) (v := V.ref a)
  have e : (fun z => if z = k then V.ref a else V.ref (rs z)) = fun z => V.ref (if z = k then a else rs z) := funext fun z => by
    by_cases hz : z = k
    · rw [if_pos hz, if_pos hz]
    · rw [if_neg hz, if_neg hz]
  rw [e] at h
  exact h
theorem dc_refs {J : It} {H1 : Hp} {ks : List Str} {g : TG} {tt : TT} {tk tv : TE} {vs : List Nat} {σ : L2.St} {D : Addr} {Qd : Hp → Prop} (S : Src J H1 (ks.map V.str).length (fun i x _ => (ks.map V.str)[i]? = some x)) (nd : ks.Nodup) (hn : ks.length ≤ 1000000) (O : Str → HO → Prop) (np : H1 D = none)
    (hs : ∀ (z : Str) (H2 : Hp) (C : V → V → Hp → Prop) (Z : Hp → Prop), z ∈ ks → Ex H1 H2 → (∀ a o H3, Ex H2 H3 → H2 a = none → H3 a = some o → O z o → C (.str z) (.ref a) H3) →
      g (.str z) (wipe σ vs) H2 fun σ2 H3 => wipe σ2 vs = wipe σ vs ∧ tt σ2 H3 fun b H4 => if b = true then tk σ2 H4 fun y H5 => tv σ2 H5 fun v H6 => C y v H6 else Z H4)
    (hd : ∀ H' rs, Ex H1 H' → H' D = some (.dK (wkv rs ks)) → (∀ z ∈ ks, rs z ≠ D ∧ ∃ o, H' (rs z) = some o ∧ O z o) → Qd H') : DcGo J H1 g tt tk tv vs σ D Qd := by
  have big : 1000000 < sizeLine := by decide
  let Pv : Nat → Hp → Prop := fun i H => Ex H1 H ∧ ∃ rs : Str → Addr, H D = some (.dK (wkv rs (ks.take i))) ∧ ∀ z ∈ ks.take i, rs z ≠ D ∧ ∃ o, H (rs z) = some o ∧ O z o
  have lm : (ks.map V.str).length = ks.length := List.length_map ..
  rw [lm] at S
  refine ⟨fun i m H => m = ks.length - i ∧ i ≤ ks.length ∧ Pv i H, ⟨_, rfl, Nat.zero_le _, Ex.new np, fun _ => 0, upd_same, fun z hz => (List.not_mem_nil hz).elim⟩, ?_⟩
  rintro i m H ⟨rfl, hi, e, rs, hD, hR⟩
  by_cases hlt : i < ks.length
  · refine .inr ⟨S.go i H e hlt, Pv (i + 1), fun H' p' => ⟨ks.length - (i + 1), by omega, rfl, hlt, p'⟩, fun x H' y => ?_⟩
    obtain ⟨e2, it⟩ := S.yld i H x H' e hlt y
    obtain ⟨z, hz, rfl⟩ := str_at it
    have znew : z ∉ ks.take i := fun h => by
      have h2 : (ks.take (i + 1)).Nodup := (List.take_sublist _ _).nodup nd
      rw [take_snoc hz] at h2
      exact (List.nodup_append.mp h2).2.2 z h z (List.mem_singleton.mpr rfl) rfl
    refine hs z H' _ _ (List.mem_of_getElem? hz) (e.trans e2) fun a o H3 e3 na ha ho => ?_
    have hD2 := e2 _ _ hD
    have hD3 := e3 _ _ hD2
    have aD : a ≠ D := ne_free hD2 na
    refine ⟨_, kS z, rfl, hD3, by rw [wkv_len, List.length_take]; omega, Ex.mut (e.trans (e2.trans e3)) np, fun y => if y = z then a else rs y, ?_, fun y hy => ?_⟩
    · rw [upd_same, wkv_put, addS, if_neg znew, take_snoc hz]
    · rw [take_snoc hz] at hy
      show (if y = z then a else rs y) ≠ D ∧ ∃ o, (upd H3 D _) (if y = z then a else rs y) = some o ∧ O y o
      by_cases hyz : y = z
      · rw [if_pos hyz, upd_ne aD, hyz]
        exact ⟨aD, o, ha, ho⟩
      · have hy2 : y ∈ ks.take i := (List.mem_append.mp hy).elim (fun h => h) fun h => absurd (List.mem_singleton.mp h) hyz
        obtain ⟨n1, o1, h1, h2⟩ := hR y hy2
        rw [if_neg hyz, upd_ne n1]
        exact ⟨n1, o1, (e2.trans e3) _ _ h1, h2⟩
  · obtain rfl : i = ks.length := by omega
    rw [List.take_length] at hD hR
    exact .inl ⟨S.stop _ H e (Nat.le_refl _), hd H rs e hD hR⟩
/-! ### a list of things made at once -/
inductive Two {α β : Type} (R : α → β → Prop) : List α → List β → Prop
  | nil : Two R [] []
  | cons {a : α} {b : β} {as : List α} {bs : List β} : R a b → Two R as bs → Two R (a :: as) (b :: bs)
theorem Two.snoc {α β : Type} {R : α → β → Prop} {a : α} {b : β} (h : R a b) : ∀ {as : List α} {bs : List β}, Two R as bs → Two R (as ++ [a]) (bs ++ [b])
  | _, _, .nil => .cons h .nil
  | _, _, .cons h1 t => .cons h1 (Two.snoc h t)
theorem Two.imp {α β : Type} {R R' : α → β → Prop} (h : ∀ a b, R a b → R' a b) : ∀ {as : List α} {bs : List β}, Two R as bs → Two R' as bs
  | _, _, .nil => .nil
  | _, _, .cons h1 t => .cons (h _ _ h1) (Two.imp h t)
theorem Two.len {α β : Type} {R : α → β → Prop} : ∀ {as : List α} {bs : List β}, Two R as bs → bs.length = as.length
  | _, _, .nil => rfl
  | _, _, .cons _ t => by rw [List.length_cons, List.length_cons, Two.len t]
theorem Two.at {α β : Type} {R : α → β → Prop} : ∀ {as : List α} {bs : List β} {i : Nat} {b : β}, Two R as bs → bs[i]? = some b → ∃ a, as[i]? = some a ∧ R a b
  | _, _, _, _, .nil, h => by simp at h
  | _, _, 0, b, .cons (b := b1) h1 _, h => by
    simp at h
    exact ⟨_, rfl, h ▸ h1⟩
  | _, _, i + 1, b, .cons _ t, h => by
    obtain ⟨a, h1, h2⟩ := Two.at t (i := i) (by simpa using h)
    exact ⟨a, by simpa using h1, h2⟩
theorem Two.get {α β : Type} {R : α → β → Prop} : ∀ {as : List α} {bs : List β} {i : Nat} {a : α}, Two R as bs → as[i]? = some a → ∃ b, bs[i]? = some b ∧ R a b
  | _, _, _, _, .nil, h => by simp at h
  | _, _, 0, b, .cons h1 _, h => by
    simp at h
    exact ⟨_, rfl, h ▸ h1⟩
  | _, _, i + 1, b, .cons _ t, h => by
    obtain ⟨a, h1, h2⟩ := Two.get t (i := i) (by simpa using h)
    exact ⟨a, by simpa using h1, h2⟩
theorem lc_gen {J : It} {H1 : Hp} {n : Nat} {item : Nat → V → Hp → Prop} {g : TG} {tt : TT} {te : TE} {vs : List Nat} {σ : L2.St} {D : Addr} {Qd : Hp → Prop} (S : Src J H1 n item) (hn : n ≤ 1000000) (np : H1 D = none) (f : Nat → Bool) (R : Nat → V → Hp → Prop)
    (Rx : ∀ i v H H', R i v H → Ex H H' → R i v H') (Rm : ∀ i v H acc acc', H D = some (.lst acc) → R i v H → R i v (upd H D (.lst acc')))
    (hs : ∀ (i : Nat) (x : V) (H2 : Hp) (Y : VK) (Z : Hp → Prop), i < n → Ex H1 H2 → item i x H2 → (f i = true → ∀ y H3, Ex H2 H3 → R i y H3 → Y y H3) → (f i = false → ∀ H3, Ex H2 H3 → Z H3) →
      g x (wipe σ vs) H2 fun σ2 H3 => wipe σ2 vs = wipe σ vs ∧ tt σ2 H3 fun b H4 => if b = true then te σ2 H4 Y else Z H4)
    (hd : ∀ H' acc, Ex H1 H' → H' D = some (.lst acc) → Two (fun i v => R i v H') ((List.range n).filter f) acc → Qd H') : LcGo J H1 g tt te vs σ D Qd := by
  have big : 1000000 < sizeLine := by decide
  let Pv : Nat → Hp → Prop := fun i H => Ex H1 H ∧ ∃ acc, H D = some (.lst acc) ∧ Two (fun i v => R i v H) ((List.range i).filter f) acc
  refine ⟨fun i m H => m = n - i ∧ i ≤ n ∧ Pv i H, ⟨n, by simp, Nat.zero_le _, Ex.new np, [], upd_same, .nil⟩, ?_⟩
  rintro i m H ⟨rfl, hi, e, acc, hD, ha⟩
  by_cases hlt : i < n
  · refine .inr ⟨S.go i H e hlt, Pv (i + 1), fun H' p' => ⟨n - (i + 1), by omega, rfl, hlt, p'⟩, fun x H' y => ?_⟩
    obtain ⟨e2, it⟩ := S.yld i H x H' e hlt y
    refine hs i x H' _ _ hlt (e.trans e2) it (fun hf z H6 e6 hz => ?_) (fun hf H5 e5 => ?_)
    · have e46 : Ex H H6 := e2.trans e6
      have h6 : H6 D = some (.lst acc) := e46 _ _ hD
      refine ⟨acc, h6, ?_, Ex.mut (e.trans e46) np, acc ++ [z], upd_same, ?_⟩
      · have l1 := ha.len
        have l2 := List.length_filter_le f (List.range i)
        rw [List.length_range] at l2
        omega
      · rw [List.range_succ, List.filter_append, List.filter_cons_of_pos hf]
        exact Two.snoc (R := fun j v => R j v (upd H6 D (.lst (acc ++ [z])))) (Rm i z H6 _ _ h6 hz) (ha.imp fun j v h => Rm j v H6 _ _ h6 (Rx j v H H6 h e46))
    · refine ⟨e.trans (e2.trans e5), acc, e5 _ _ (e2 _ _ hD), ?_⟩
      rw [List.range_succ, List.filter_append, List.filter_cons_of_neg (by rw [hf]; exact Bool.false_ne_true), List.filter_nil, List.append_nil]
      exact ha.imp fun j v h => Rx j v H _ h (e2.trans e5)
  · obtain rfl : i = n := by omega
    exact .inl ⟨S.stop i H e (Nat.le_refl _), hd H acc e hD ha⟩
/-! ### a dict of tuples of texts -/
def Td (K : PySem.W.Frag) (H : Hp) (d : Addr) (ks : List Str) (f : Str → List Str) : Prop := ∃ rs : Str → Addr, H d = some (.dK (wkv rs ks)) ∧ ∀ k ∈ ks, SqT K H (rs k) ((f k).map V.str)
theorem sqT_put {K : PySem.W.Frag} {H : Hp} {p a : Addr} {kvs : List (Key × V)} {u : HO} {xs : List V} (hp : H p = some (.dK kvs)) (h : SqT K H a xs) : SqT K (upd H p u) a xs := by
  have ne : ∀ {w : HO}, H a = some w → w ≠ .dK kvs → (upd H p u) a = some w := fun {w} hw n => by
    rw [upd_ne fun e => n (by rw [e, hp] at hw; exact (Option.some.inj hw).symm)]
    exact hw
  unfold SqT at h ⊢
  first
    | exact h.elim (fun q => .inl (ne q (fun z => nomatch z))) fun q => .inr q
    | exact h.elim (fun q => .inl (q.elim (fun q => .inl (ne q (fun z => nomatch z))) fun ⟨ob, q⟩ => .inr ⟨ob, ne q (fun z => by cases z)⟩)) fun q => .inr q
theorem Td.put {K : PySem.W.Frag} {H : Hp} {L c : Addr} {rs : Str → Addr} {ks : List Str} {f f' : Str → List Str} {k : Str} (h : H L = some (.dK (wkv rs ks))) (hr : ∀ y ∈ ks, SqT K H (rs y) ((f y).map V.str)) (hc : SqT K H c ((f' k).map V.str)) (same : ∀ y ∈ ks, y ≠ k → f' y = f y) :
    Td K (upd H L (.dK (putK (wkv rs ks) (kS k) (.ref c)))) L (addS ks k) f' := by
  refine ⟨fun z => if z = k then c else rs z, by rw [upd_same, wkv_put], fun y hy => ?_⟩
  show SqT K _ (if y = k then c else rs y) _
  by_cases hyk : y = k
  · rw [if_pos hyk, hyk]
    exact sqT_put h hc
  · rw [if_neg hyk]
    rcases addS_mem.mp hy with hy | hy
    · rw [same y hy hyk]
      exact sqT_put h (hr y hy)
    · exact absurd hy hyk
/-- the dict at d has reached lists, read or locked -/
def Wr (H : Hp) (d : Addr) (ks : List Str) (f : Str → List Str) : Prop := ∃ rs : Str → Addr, Rd H d (.dK (wkv rs ks)) ∧ ∀ k ∈ ks, H (rs k) = some (.lst ((f k).map V.str))
theorem Wd.wr {H : Hp} {d : Addr} {ks : List Str} {f : Str → List Str} (w : Wd H d ks f) : Wr H d ks f := by
  obtain ⟨rs, h1, h2⟩ := w
  exact ⟨rs, .inl h1, h2⟩
theorem Wr.ex {H H' : Hp} {d : Addr} {ks : List Str} {f : Str → List Str} (e : Ex H H') (w : Wr H d ks f) : Wr H' d ks f := by
  obtain ⟨rs, h1, h2⟩ := w
  exact ⟨rs, h1.elim (fun q => .inl (e _ _ q)) fun ⟨o, q⟩ => .inr ⟨o, e _ _ q⟩, fun k hk => e _ _ (h2 k hk)⟩
theorem rd_get {H : Hp} {d : Addr} {kvs : List (Key × V)} {k : Key} (h : Rd H d (.dK kvs)) : DGet H d (kV k) (valV kvs k) := .inl ⟨kvs, k, h, rfl, rfl⟩
theorem rd_ex {H H' : Hp} {d : Addr} {u : HO} (e : Ex H H') (h : Rd H d u) : Rd H' d u := h.elim (fun q => .inl (e _ _ q)) fun ⟨o, q⟩ => .inr ⟨o, e _ _ q⟩
theorem Wr.get {H : Hp} {d : Addr} {ks : List Str} {f : Str → List Str} (w : Wr H d ks f) {k : Str} (hk : k ∈ ks) : ∃ r, (∀ H', Ex H H' → DGet H' d (.str k) (some (.ref r))) ∧ H r = some (.lst ((f k).map V.str)) := by
  obtain ⟨rs, h1, h2⟩ := w
  refine ⟨rs k, fun H' e => ?_, h2 k hk⟩
  rw [← wkv_val (rs := rs) hk]
  exact rd_get (k := kS k) (rd_ex e h1)
theorem Wr.lock {H : Hp} {d : Addr} {ks : List Str} {f : Str → List Str} {od : Obj} {rs : Str → Addr} (h : H d = some (.dK (wkv rs ks))) (hr : ∀ k ∈ ks, H (rs k) = some (.lst ((f k).map V.str))) : Wr (upd H d (.frz od (.dK (wkv rs ks)))) d ks f :=
  ⟨rs, .inr ⟨od, upd_same⟩, fun k hk => lock_at h (hr k hk) fun z => nomatch z⟩
end My

/-! lots in their order, arcs that join them -/
namespace My
open PySem PySem.Spec PyProof.Rows L2 Evl
/-! ### an order of m things -/
structure Po (m : Nat) (le : Nat → Nat → Prop) : Prop where
  rf : ∀ i, i < m → le i i
  tr : ∀ i j k, le i j → le j k → le i k
  an : ∀ i j, le i j → le j i → i = j
  lt : ∀ i j, le i j → i < m ∧ j < m
def flip2 (le : Nat → Nat → Prop) : Nat → Nat → Prop := fun i j => le j i
theorem Po.flip {m : Nat} {le : Nat → Nat → Prop} (P : Po m le) : Po m (flip2 le) := ⟨P.rf, fun i j k a b => P.tr k j i b a, fun i j a b => P.an i j b a, fun i j a => ⟨(P.lt j i a).2, (P.lt j i a).1⟩⟩
def Mx (m : Nat) (le : Nat → Nat → Prop) (e : Nat) : Prop := e < m ∧ ∀ j, le e j → j = e
theorem len_lt {l1 l2 : List Nat} {x : Nat} (nd : l1.Nodup) (sub : ∀ y ∈ l1, y ∈ l2) (h1 : x ∉ l1) (h2 : x ∈ l2) : l1.length < l2.length := by
  have := nodup_len (ks := x :: l1) (l := l2) (List.nodup_cons.mpr ⟨h1, nd⟩) fun y hy => (List.mem_cons.mp hy).elim (fun e => e ▸ h2) (sub y)
  exact this
open Classical in
theorem Po.top {m : Nat} {le : Nat → Nat → Prop} (P : Po m le) {i : Nat} (hi : i < m) : ∃ e, Mx m le e ∧ le i e := by
  obtain ⟨n, ⟨e, he, hn⟩, hmin⟩ := ex_least (p := fun n => ∃ e, le i e ∧ ((List.range m).filter fun k => decide (le e k)).length = n) ⟨_, i, P.rf i hi, rfl⟩
  refine ⟨e, ⟨(P.lt i e he).2, fun j hj => ?_⟩, he⟩
  by_cases hje : j = e
  · exact hje
  · exfalso
    have h1 := hmin _ ⟨j, P.tr _ _ _ he hj, rfl⟩
    have em := (P.lt i e he).2
    have h2 : ((List.range m).filter fun k => decide (le j k)).length < ((List.range m).filter fun k => decide (le e k)).length := by
      refine len_lt (x := e) (List.nodup_range.filter _) (fun y hy => ?_) (fun h => ?_) ?_
      · obtain ⟨a, b⟩ := List.mem_filter.mp hy
        exact List.mem_filter.mpr ⟨a, decide_eq_true (P.tr _ _ _ hj (of_decide_eq_true b))⟩
      · exact hje (P.an _ _ (of_decide_eq_true (List.mem_filter.mp h).2) hj)
      · exact List.mem_filter.mpr ⟨List.mem_range.mpr em, decide_eq_true (P.rf e em)⟩
    omega
theorem Po.bot {m : Nat} {le : Nat → Nat → Prop} (P : Po m le) {i : Nat} (hi : i < m) : ∃ s, Mx m (flip2 le) s ∧ le s i := P.flip.top hi
/-! ### arcs between them -/
inductive Ga (le : Nat → Nat → Prop) (A : Nat → Nat → Prop) (i : Nat) : Nat → Prop
  | le {j : Nat} : le i j → Ga le A i j
  | arc {a b j : Nat} : Ga le A i a → A a b → le b j → Ga le A i j
def Sg (m : Nat) (le A : Nat → Nat → Prop) : Prop := ∀ i j, i < m → j < m → Ga le A i j
section
variable {m : Nat} {le A : Nat → Nat → Prop}
theorem Ga.on (P : Po m le) {i j k : Nat} (h : Ga le A i j) (h2 : le j k) : Ga le A i k := by
  cases h with
  | le h => exact .le (P.tr _ _ _ h h2)
  | arc h a b => exact .arc h a (P.tr _ _ _ b h2)
theorem Ga.trans (P : Po m le) {i j k : Nat} (h : Ga le A i j) (h2 : Ga le A j k) : Ga le A i k := by
  induction h2 with
  | le h2 => exact h.on P h2
  | arc _ a b ih => exact .arc ih a b
theorem Ga.mono {B : Nat → Nat → Prop} (h : ∀ a b, A a b → B a b) {i j : Nat} (g : Ga le A i j) : Ga le B i j := by
  induction g with
  | le h2 => exact .le h2
  | arc _ a b ih => exact .arc ih (h _ _ a) b
/-- the top is left by an arc, the bottom is come to by one -/
theorem Ga.out {e j : Nat} (he : Mx m le e) (h : Ga le A e j) : j = e ∨ ∃ b, A e b := by
  induction h with
  | le h => exact .inl (he.2 _ h)
  | arc _ a b ih =>
    rcases ih with rfl | h
    · exact .inr ⟨_, a⟩
    · exact .inr h
theorem Ga.into {s i : Nat} (hs : Mx m (flip2 le) s) (h : Ga le A i s) : i = s ∨ ∃ a, A a s := by
  cases h with
  | le h => exact .inl (hs.2 _ h)
  | arc _ a b =>
    have := hs.2 _ b
    subst this
    exact .inr ⟨_, a⟩
theorem other {m e : Nat} (h : 2 ≤ m) : ∃ j, j < m ∧ j ≠ e := by
  by_cases he : e = 0
  · exact ⟨1, by omega, by omega⟩
  · exact ⟨0, by omega, by omega⟩
theorem Sg.out (h2 : 2 ≤ m) (S : Sg m le A) {e : Nat} (he : Mx m le e) : ∃ b, A e b := by
  obtain ⟨j, hj, hne⟩ := other (e := e) h2
  exact ((S e j he.1 hj).out he).resolve_left hne
theorem Sg.into (h2 : 2 ≤ m) (S : Sg m le A) {s : Nat} (hs : Mx m (flip2 le) s) : ∃ a, A a s := by
  obtain ⟨j, hj, hne⟩ := other (e := s) h2
  exact ((S j s hj hs.1).into hs).resolve_left hne
/-- one arc -/
def Arc1 (a b : Nat) : Nat → Nat → Prop := fun i j => i = a ∧ j = b
/-- two arcs -/
def Arc2 (a b c d : Nat) : Nat → Nat → Prop := fun i j => (i = a ∧ j = b) ∨ (i = c ∧ j = d)
theorem sg_one (P : Po m le) {e s : Nat} (hm : ∀ i, Mx m le i → i = e) (hn : ∀ i, Mx m (flip2 le) i → i = s) : Sg m le (Arc1 e s) := fun i j hi hj => by
  obtain ⟨t, ht, hit⟩ := P.top hi
  obtain ⟨b, hb, hbj⟩ := P.bot hj
  rw [hm t ht] at hit
  rw [hn b hb] at hbj
  exact .arc (.le hit) ⟨rfl, rfl⟩ hbj
theorem one_sg (h2 : 2 ≤ m) {a b : Nat} (S : Sg m le (Arc1 a b)) : (∀ i, Mx m le i → i = a) ∧ ∀ i, Mx m (flip2 le) i → i = b := by
  refine ⟨fun i hi => ?_, fun i hi => ?_⟩
  · obtain ⟨_, h, _⟩ := S.out h2 hi
    exact h
  · obtain ⟨_, _, h⟩ := S.into h2 hi
    exact h
theorem two_sg (h2 : 2 ≤ m) {a b c d : Nat} (S : Sg m le (Arc2 a b c d)) : (∀ i, Mx m le i → i = a ∨ i = c) ∧ ∀ i, Mx m (flip2 le) i → i = b ∨ i = d := by
  refine ⟨fun i hi => ?_, fun i hi => ?_⟩
  · obtain ⟨_, h | h⟩ := S.out h2 hi
    · exact .inl h.1
    · exact .inr h.1
  · obtain ⟨_, h | h⟩ := S.into h2 hi
    · exact .inl h.2
    · exact .inr h.2
theorem two_swap {a b c d : Nat} (S : Sg m le (Arc2 a b c d)) : Sg m le (Arc2 c d a b) := fun i j hi hj => (S i j hi hj).mono fun _ _ h => h.symm
/-- an arc that the order has is of no use -/
theorem two_idle (P : Po m le) {a b c d : Nat} (h : le a b) (S : Sg m le (Arc2 a b c d)) : Sg m le (Arc1 c d) := fun i j hi hj => by
  have g := S i j hi hj
  clear hj S
  induction g with
  | le h => exact .le h
  | arc _ x y ih =>
    rcases x with ⟨rfl, rfl⟩ | ⟨rfl, rfl⟩
    · exact ih.on P (P.tr _ _ _ h y)
    · exact .arc ih ⟨rfl, rfl⟩ y
theorem two_same {a b : Nat} (S : Sg m le (Arc2 a b a b)) : Sg m le (Arc1 a b) := fun i j hi hj => (S i j hi hj).mono fun _ _ h => h.elim id id
/-- what two arcs let come to -/
def Com (le : Nat → Nat → Prop) (a b c d : Nat) (j : Nat) : Prop := le 0 j ∨ (le 0 a ∧ le b j) ∨ (le 0 c ∧ le d j) ∨ (le 0 a ∧ le b c ∧ le d j) ∨ (le 0 c ∧ le d a ∧ le b j)
theorem com_ga (P : Po m le) {a b c d j : Nat} : Com le a b c d j ↔ Ga le (Arc2 a b c d) 0 j := by
  constructor
  · rintro (h | ⟨h1, h2⟩ | ⟨h1, h2⟩ | ⟨h1, h2, h3⟩ | ⟨h1, h2, h3⟩)
    · exact .le h
    · exact .arc (.le h1) (.inl ⟨rfl, rfl⟩) h2
    · exact .arc (.le h1) (.inr ⟨rfl, rfl⟩) h2
    · exact .arc (.arc (.le h1) (.inl ⟨rfl, rfl⟩) h2) (.inr ⟨rfl, rfl⟩) h3
    · exact .arc (.arc (.le h1) (.inr ⟨rfl, rfl⟩) h2) (.inl ⟨rfl, rfl⟩) h3
  · intro h
    induction h with
    | le h => exact .inl h
    | arc _ x y ih =>
      rcases x with ⟨rfl, rfl⟩ | ⟨rfl, rfl⟩
      · rcases ih with h | ⟨h1, h2⟩ | ⟨h1, h2⟩ | ⟨h1, h2, h3⟩ | ⟨h1, h2, h3⟩
        · exact .inr (.inl ⟨h, y⟩)
        · exact .inr (.inl ⟨h1, y⟩)
        · exact .inr (.inr (.inr (.inr ⟨h1, h2, y⟩)))
        · exact .inr (.inl ⟨h1, y⟩)
        · exact .inr (.inr (.inr (.inr ⟨h1, h2, y⟩)))
      · rcases ih with h | ⟨h1, h2⟩ | ⟨h1, h2⟩ | ⟨h1, h2, h3⟩ | ⟨h1, h2, h3⟩
        · exact .inr (.inr (.inl ⟨h, y⟩))
        · exact .inr (.inr (.inr (.inl ⟨h1, h2, y⟩)))
        · exact .inr (.inr (.inl ⟨h1, y⟩))
        · exact .inr (.inr (.inr (.inl ⟨h1, h2, y⟩)))
        · exact .inr (.inr (.inl ⟨h1, y⟩))
theorem ga_flip (P : Po m le) {i j : Nat} (h : Ga le A i j) : Ga (flip2 le) (flip2 A) j i := by
  induction h with
  | le h => exact .le h
  | arc h x y ih => exact Ga.trans P.flip (.arc (.le y) x (P.flip.rf _ (by
      cases h with
      | le h => exact (P.lt _ _ h).2
      | arc _ _ h => exact (P.lt _ _ h).2))) ih
/-- all are one, told from the first -/
theorem sg_zero (P : Po m le) {a b c d : Nat} : Sg m le (Arc2 a b c d) ↔ 0 < m → (∀ j, j < m → Com le a b c d j) ∧ ∀ j, j < m → Com (flip2 le) b a d c j := by
  have fl : flip2 (Arc2 a b c d) = Arc2 b a d c := by
    funext i j
    unfold flip2 Arc2
    rw [and_comm, and_comm (a := j = c)]
  have fl2 : flip2 (Arc2 b a d c) = Arc2 a b c d := by
    funext i j
    unfold flip2 Arc2
    rw [and_comm, and_comm (a := j = d)]
  constructor
  · intro S h0
    refine ⟨fun j hj => (com_ga P).mpr (S 0 j h0 hj), fun j hj => (com_ga P.flip).mpr ?_⟩
    have := ga_flip P (S j 0 hj h0)
    rw [fl] at this
    exact this
  · intro h i j hi hj
    obtain ⟨h1, h2⟩ := h (by omega)
    have a1 := (com_ga P.flip).mp (h2 i hi)
    have a2 := ga_flip P.flip a1
    rw [fl2] at a2
    exact Ga.trans P a2 ((com_ga P).mp (h1 j hj))
end
end My

/-! windows that join lots -/
namespace My
open PySem PySem.Spec PyProof.Rows L2 Evl
/-- the lots of places, numbered -/
structure Lt (ws : List Str) (m : Nat) (lot : Str → Nat) : Prop where
  lt : ∀ p ∈ plcs ws, lot p < m
  on : ∀ i, i < m → ∃ p ∈ plcs ws, lot p = i
  eq : ∀ p ∈ plcs ws, ∀ q ∈ plcs ws, (lot p = lot q ↔ Rch (nxts ws) p q ∧ Rch (nxts ws) q p)
def lle (ws : List Str) (lot : Str → Nat) (i j : Nat) : Prop := ∃ p q, p ∈ plcs ws ∧ q ∈ plcs ws ∧ lot p = i ∧ lot q = j ∧ Rch (nxts ws) p q
section
variable {ws : List Str} {m : Nat} {lot : Str → Nat}
theorem Lt.le (L : Lt ws m lot) {p q : Str} (hp : p ∈ plcs ws) (hq : q ∈ plcs ws) : lle ws lot (lot p) (lot q) ↔ Rch (nxts ws) p q := by
  constructor
  · rintro ⟨a, b, ha, hb, ea, eb, h⟩
    exact (((L.eq a ha p hp).mp ea).2.trans h).trans ((L.eq b hb q hq).mp eb).1
  · exact fun h => ⟨p, q, hp, hq, rfl, rfl, h⟩
theorem Lt.po (L : Lt ws m lot) : Po m (lle ws lot) := by
  refine ⟨fun i hi => ?_, fun i j k h1 h2 => ?_, fun i j h1 h2 => ?_, fun i j h => ?_⟩
  · obtain ⟨p, hp, rfl⟩ := L.on i hi
    exact (L.le hp hp).mpr .refl
  · obtain ⟨a, b, ha, hb, rfl, rfl, h1⟩ := h1
    obtain ⟨c, d, hc, hd, e1, rfl, h2⟩ := h2
    rw [L.le ha hd]
    exact h1.trans (((L.eq c hc b hb).mp e1).2.trans h2)
  · obtain ⟨a, b, ha, hb, rfl, rfl, h1⟩ := h1
    rw [L.le hb ha] at h2
    exact (L.eq a ha b hb).mpr ⟨h1, h2⟩
  · obtain ⟨a, b, ha, hb, rfl, rfl, _⟩ := h
    exact ⟨L.lt a ha, L.lt b hb⟩
theorem Lt.hang (L : Lt ws m lot) : Hang ws ↔ m ≤ 1 := by
  constructor
  · intro h
    by_cases hm : m ≤ 1
    · exact hm
    · obtain ⟨p, hp, e0⟩ := L.on 0 (by omega)
      obtain ⟨q, hq, e1⟩ := L.on 1 (by omega)
      have := (L.eq p hp q hq).mpr ⟨h p hp q hq, h q hq p hp⟩
      omega
  · intro hm p hp q hq
    have h1 := L.lt p hp
    have h2 := L.lt q hq
    exact ((L.eq p hp q hq).mp (by omega)).1
/-- more windows between the places -/
theorem Lt.join (L : Lt ws m lot) {ys : List Str} (hy : ∀ y ∈ ys, begS y ∈ plcs ws ∧ endS y ∈ plcs ws) : Hang (ws ++ ys) ↔ Sg m (lle ws lot) (fun a b => ∃ y ∈ ys, lot (begS y) = a ∧ lot (endS y) = b) := by
  have pl : ∀ p, p ∈ plcs (ws ++ ys) ↔ p ∈ plcs ws := fun p => by
    rw [plcs_app, List.mem_append]
    refine ⟨fun h => h.elim id fun h => ?_, .inl⟩
    obtain ⟨y, hy1, h | h⟩ := plcs_mem.mp h
    · rw [h]
      exact (hy y hy1).1
    · rw [h]
      exact (hy y hy1).2
  constructor
  · intro h i j hi hj
    obtain ⟨p, hp, rfl⟩ := L.on i hi
    obtain ⟨q, hq, rfl⟩ := L.on j hj
    have r := h p ((pl p).mpr hp) q ((pl q).mpr hq)
    clear hj hq
    induction r with
    | refl => exact .le (L.po.rf _ hi)
    | step h1 h2 ih =>
      obtain ⟨x, hx, hb, he⟩ := nxts_mem.mp h2
      rcases List.mem_append.mp hx with hx | hx
      · have s : Rch (nxts ws) (begS x) (endS x) := Rch.refl.step (nxts_mem.mpr ⟨x, hx, rfl, rfl⟩)
        rw [hb, he] at s
        exact ih.on L.po ((L.le (hb ▸ beg_mem hx) (he ▸ end_mem hx)).mpr s)
      · obtain ⟨b1, b2⟩ := hy x hx
        rw [he] at b2
        exact .arc ih ⟨x, hx, by rw [hb], by rw [he]⟩ (L.po.rf _ (L.lt _ b2))
  · intro S p hp q hq
    have hp := (pl p).mp hp
    have hq := (pl q).mp hq
    have up : ∀ {a b : Str}, Rch (nxts ws) a b → Rch (nxts (ws ++ ys)) a b := fun h => rch_mono (fun x hx => List.mem_append_left _ hx) h
    have g := S (lot p) (lot q) (L.lt p hp) (L.lt q hq)
    have gen : ∀ {j : Nat}, Ga (lle ws lot) (fun a b => ∃ y ∈ ys, lot (begS y) = a ∧ lot (endS y) = b) (lot p) j → ∀ q ∈ plcs ws, lot q = j → Rch (nxts (ws ++ ys)) p q := fun {j} g => by
      induction g with
      | le h =>
        rintro q hq rfl
        exact up ((L.le hp hq).mp h)
      | arc _ x y ih =>
        rintro q hq rfl
        obtain ⟨z, hz, rfl, rfl⟩ := x
        obtain ⟨b1, b2⟩ := hy z hz
        have r1 := ih _ b1 rfl
        have r2 : Rch (nxts (ws ++ ys)) p (endS z) := r1.step (nxts_mem.mpr ⟨z, List.mem_append_right _ hz, rfl, rfl⟩)
        exact r2.trans (up ((L.le b2 hq).mp y))
    exact gen g q hq rfl
end
/-! ### a place and a letter -/
def lstc (q : Str) : Nat := (sg q).getLastD 0
theorem sg_put (p : Str) (c : Nat) : sg (p ++ one1 c) = sg p ++ [c] := sg_app p (one1 c)
theorem beg_put (p : Str) (c : Nat) : begS (p ++ one1 c) = p := sg_inj (by
  show (sg (p ++ one1 c)).dropLast = _
  rw [sg_put, List.dropLast_concat])
theorem end_put {p : Str} (h : 1 ≤ p.length) (c : Nat) : sg (endS (p ++ one1 c)) = (sg p).drop 1 ++ [c] := by
  show (sg (p ++ one1 c)).drop 1 = _
  rw [sg_put, List.drop_append_of_le_length (show 1 ≤ (sg p).length from h)]
theorem len_put (p : Str) (c : Nat) : (p ++ one1 c).length = p.length + 1 := strLen_app p (one1 c)
theorem beg_lst {q : Str} (h : 1 ≤ q.length) : sg q = (sg q).dropLast ++ [lstc q] := by
  have h2 : 1 ≤ (sg q).length := h
  have hn : sg q ≠ [] := fun e => by rw [e] at h2; simp at h2
  rcases List.eq_nil_or_concat (sg q) with e | ⟨l, c, e⟩
  · exact absurd e hn
  · have hl : lstc q = c := by
      unfold lstc
      rw [e]
      simp
    rw [hl, e]
    simp
/-- a window by its ends -/
theorem put_of {x : Str} (h : 2 ≤ x.length) : x = begS x ++ one1 (lstc (endS x)) ∧ endS (begS x) = begS (endS x) := by
  have h2 : 2 ≤ (sg x).length := h
  have hx := beg_lst (q := x) (by omega)
  have hl : lstc (endS x) = lstc x := by
    unfold lstc
    show ((sg x).drop 1).getLastD 0 = _
    rw [List.getLastD_eq_getLast?, List.getLastD_eq_getLast?, List.getLast?_drop, if_neg (by omega)]
  refine ⟨sg_inj ?_, sg_inj ?_⟩
  · rw [sg_put, hl]
    exact hx
  · show ((sg x).dropLast).drop 1 = ((sg x).drop 1).dropLast
    rcases List.eq_nil_or_concat (sg x) with e | ⟨l, c, e⟩
    · rw [e]
      rfl
    · rw [e]
      cases l with
      | nil => rw [e] at h2; simp at h2
      | cons a l =>
        simp
        rw [show a :: (l ++ [c]) = (a :: l) ++ [c] from rfl, List.dropLast_concat]
        rfl
theorem end_is {p q : Str} (hp : 1 ≤ p.length) (hq : 1 ≤ q.length) (h : endS p = begS q) : endS (p ++ one1 (lstc q)) = q := sg_inj (by
  rw [end_put hp]
  have : (sg p).drop 1 = (sg q).dropLast := congrArg sg h
  rw [this, ← beg_lst hq])
/-! ### one window more, two windows more -/
/-- what may be put to the windows V: a place of S and a letter -/
def Fur (V S : List Str) (ls : List Nat) (x : Str) : Prop := ∃ p ∈ S, ∃ c ∈ ls, x = p ++ one1 c ∧ x ∉ V
/-- an arc between two lots, by a window that is not there -/
def ArcP (ws : List Str) (lot : Str → Nat) (i j : Nat) : Prop := i ≠ j ∧ ∃ p q, p ∈ plcs ws ∧ q ∈ plcs ws ∧ lot p = i ∧ lot q = j ∧ endS p = begS q ∧ (p ++ one1 (lstc q)) ∉ ws
/-- an arc by a new place -/
def LongP (ws : List Str) (lot : Str → Nat) (i j : Nat) : Prop := i ≠ j ∧ ∃ p q, p ∈ plcs ws ∧ q ∈ plcs ws ∧ lot p = i ∧ lot q = j ∧ endS (endS p) = begS (begS q) ∧ (endS p ++ one1 (lstc (begS q))) ∉ plcs ws
section
variable {ws : List Str} {m n : Nat} {lot : Str → Nat} {ls : List Nat}
/-- all have one length -/
structure Wl (ws : List Str) (n : Nat) (ls : List Nat) : Prop where
  n2 : 2 ≤ n
  len : ∀ x ∈ ws, x.length = n
  ne : ws ≠ []
  let_ : ∀ c, c ∈ ls ↔ ∃ x ∈ ws, c ∈ sg x
theorem Wl.plc (W : Wl ws n ls) {p : Str} (hp : p ∈ plcs ws) : p.length = n - 1 ∧ 1 ≤ p.length := by
  obtain ⟨x, hx, h | h⟩ := plcs_mem.mp hp
  · rw [h, len_beg, W.len x hx]
    have := W.n2
    omega
  · rw [h, len_end, W.len x hx]
    have := W.n2
    omega
theorem Wl.sgn (W : Wl ws n ls) {p : Str} (hp : p ∈ plcs ws) {c : Nat} (hc : c ∈ sg p) : c ∈ ls := by
  obtain ⟨x, hx, h | h⟩ := plcs_mem.mp hp
  · rw [h] at hc
    exact (W.let_ c).mpr ⟨x, hx, List.dropLast_subset _ hc⟩
  · rw [h] at hc
    exact (W.let_ c).mpr ⟨x, hx, List.drop_subset _ _ hc⟩
theorem lst_mem {q : Str} (h : 1 ≤ q.length) : lstc q ∈ sg q := by
  rw [beg_lst h]
  exact List.mem_append_right _ (List.mem_singleton.mpr rfl)
theorem sg_many {le A B : Nat → Nat → Prop} (h : ∀ a b, A a b ↔ B a b) : Sg m le A ↔ Sg m le B :=
  ⟨fun S i j hi hj => (S i j hi hj).mono fun a b => (h a b).mp, fun S i j hi hj => (S i j hi hj).mono fun a b => (h a b).mpr⟩
/-- a new place that is not left again -/
theorem dead {V : List Str} {x : Str} (hx : x ∈ V) (h : Hang V) {p : Str} (hp : p ∈ plcs V) (hne : p ≠ endS x) : ∃ y ∈ V, begS y = endS x ∧ endS y ≠ endS x := rch_out (h _ (end_mem hx) _ hp) hne
theorem join1 (L : Lt ws m lot) {x : Str} (hb : begS x ∈ plcs ws) (he : endS x ∈ plcs ws) : Hang (ws ++ [x]) ↔ Sg m (lle ws lot) (Arc1 (lot (begS x)) (lot (endS x))) := by
  rw [L.join fun y hy => by rw [List.mem_singleton.mp hy]; exact ⟨hb, he⟩]
  refine sg_many fun a b => ⟨fun ⟨y, hy, h1, h2⟩ => ?_, fun ⟨h1, h2⟩ => ⟨x, List.mem_singleton.mpr rfl, h1.symm, h2.symm⟩⟩
  rw [List.mem_singleton.mp hy] at h1 h2
  exact ⟨h1.symm, h2.symm⟩
theorem join2 (L : Lt ws m lot) {x y : Str} (hb : begS x ∈ plcs ws) (he : endS x ∈ plcs ws) (hb2 : begS y ∈ plcs ws) (he2 : endS y ∈ plcs ws) : Hang (ws ++ [x, y]) ↔ Sg m (lle ws lot) (Arc2 (lot (begS x)) (lot (endS x)) (lot (begS y)) (lot (endS y))) := by
  rw [L.join fun z hz => by
    rcases List.mem_cons.mp hz with rfl | hz
    · exact ⟨hb, he⟩
    · rw [List.mem_singleton.mp hz]
      exact ⟨hb2, he2⟩]
  refine sg_many fun a b => ⟨fun ⟨z, hz, h1, h2⟩ => ?_, fun h => ?_⟩
  · rcases List.mem_cons.mp hz with rfl | hz
    · exact .inl ⟨h1.symm, h2.symm⟩
    · rw [List.mem_singleton.mp hz] at h1 h2
      exact .inr ⟨h1.symm, h2.symm⟩
  · rcases h with ⟨h1, h2⟩ | ⟨h1, h2⟩
    · exact ⟨x, List.mem_cons_self .., h1.symm, h2.symm⟩
    · exact ⟨y, List.mem_cons_of_mem _ (List.mem_cons_self ..), h1.symm, h2.symm⟩
/-- an arc's window -/
theorem arc_win (W : Wl ws n ls) {i j : Nat} (h : ArcP ws lot i j) : ∃ x, Fur ws (plcs ws) ls x ∧ begS x ∈ plcs ws ∧ endS x ∈ plcs ws ∧ lot (begS x) = i ∧ lot (endS x) = j := by
  obtain ⟨_, p, q, hp, hq, h1, h2, h3, h4⟩ := h
  have lp := (W.plc hp).2
  have lq := (W.plc hq).2
  have e := end_is lp lq h3
  exact ⟨p ++ one1 (lstc q), ⟨p, hp, lstc q, W.sgn hq (lst_mem lq), rfl, h4⟩, by rw [beg_put]; exact hp, by rw [e]; exact hq, by rw [beg_put]; exact h1, by rw [e]; exact h2⟩
theorem win_arc (W : Wl ws n ls) {x : Str} (hx : x ∉ ws) (hb : begS x ∈ plcs ws) (he : endS x ∈ plcs ws) (l : 2 ≤ x.length) (hne : lot (begS x) ≠ lot (endS x)) : ArcP ws lot (lot (begS x)) (lot (endS x)) := by
  obtain ⟨h1, h2⟩ := put_of l
  exact ⟨hne, begS x, endS x, hb, he, rfl, rfl, h2, by rw [← h1]; exact hx⟩
theorem Fur.len (W : Wl ws n ls) {V : List Str} {x : Str} (h : Fur V (plcs ws) ls x) : x.length = n ∧ begS x ∈ plcs ws := by
  obtain ⟨p, hp, c, _, rfl, _⟩ := h
  rw [len_put, beg_put]
  have := W.plc hp
  exact ⟨by omega, hp⟩
/-- which window alone makes it hang together -/
theorem single (W : Wl ws n ls) (L : Lt ws m lot) (h2 : 2 ≤ m) : (∃ x, Fur ws (plcs ws) ls x ∧ Hang (ws ++ [x])) ↔ ∃ e s, (∀ i, Mx m (lle ws lot) i → i = e) ∧ (∀ i, Mx m (flip2 (lle ws lot)) i → i = s) ∧ ArcP ws lot e s := by
  constructor
  · rintro ⟨x, hx, hh⟩
    obtain ⟨xl, hb⟩ := hx.len W
    have xn : x ∉ ws := by
      obtain ⟨_, _, _, _, _, h⟩ := hx
      exact h
    by_cases he : endS x ∈ plcs ws
    · have S := (join1 L hb he).mp hh
      obtain ⟨hm, hn⟩ := one_sg h2 S
      refine ⟨_, _, hm, hn, win_arc W xn hb he (by have := W.n2; omega) fun e => ?_⟩
      have all : ∀ i, i < m → i = lot (begS x) := fun i hi => by
        obtain ⟨t, ht, hit⟩ := L.po.top hi
        obtain ⟨b, hb2, hbi⟩ := L.po.bot hi
        have e1 := hm t ht
        have e2 := hn b hb2
        rw [e1] at hit
        rw [e2, ← e] at hbi
        exact L.po.an _ _ hit hbi
      have a0 := all 0 (by omega)
      have a1 := all 1 (by omega)
      omega
    · obtain ⟨y, hy, y1, y2⟩ := dead (List.mem_append_right _ (List.mem_singleton.mpr rfl)) hh (p := begS x) (by rw [plcs_app]; exact List.mem_append_left _ hb) (fun e => he (e ▸ hb))
      rcases List.mem_append.mp hy with hy | hy
      · exact absurd (y1 ▸ beg_mem hy) he
      · rw [List.mem_singleton.mp hy] at y1
        exact absurd (y1 ▸ hb) he
  · rintro ⟨e, s, hm, hn, ha⟩
    obtain ⟨x, hx, hb, he, h1, h3⟩ := arc_win W ha
    refine ⟨x, hx, (join1 L hb he).mpr ?_⟩
    rw [h1, h3]
    exact sg_one L.po hm hn
end
end My

/-! two windows that join -/
namespace My
open PySem PySem.Spec PyProof.Rows L2 Evl
section
variable {ws : List Str} {m n : Nat} {lot : Str → Nat} {ls : List Nat}
theorem Fur.as {V S S' : List Str} {x : Str} (h : Fur V S ls x) (hs : ∀ p ∈ S, p ∈ S') : Fur V S' ls x := by
  obtain ⟨p, hp, c, hc, e, hn⟩ := h
  exact ⟨p, hs p hp, c, hc, e, hn⟩
theorem all_one {le : Nat → Nat → Prop} (P : Po m le) (h2 : 2 ≤ m) {e s : Nat} (hm : ∀ i, Mx m le i → i = e) (hn : ∀ i, Mx m (flip2 le) i → i = s) : e ≠ s := fun h => by
  have all : ∀ i, i < m → i = e := fun i hi => by
    obtain ⟨t, ht, hit⟩ := P.top hi
    obtain ⟨b, hb2, hbi⟩ := P.bot hi
    have e1 := hm t ht
    have e2 := hn b hb2
    rw [e1] at hit
    rw [e2, ← h] at hbi
    exact P.an _ _ hit hbi
  have a0 := all 0 (by omega)
  have a1 := all 1 (by omega)
  omega
/-- a way by a new place -/
theorem join_long (L : Lt ws m lot) {x y : Str} (hb : begS x ∈ plcs ws) (hr : endS x ∉ plcs ws) (hxy : begS y = endS x) (he : endS y ∈ plcs ws) : Hang (ws ++ [x, y]) ↔ Sg m (lle ws lot) (Arc1 (lot (begS x)) (lot (endS y))) := by
  have pl : ∀ p, p ∈ plcs (ws ++ [x, y]) ↔ p ∈ plcs ws ∨ p = endS x := fun p => by
    rw [plcs_app, List.mem_append]
    constructor
    · rintro (h | h)
      · exact .inl h
      · obtain ⟨z, hz, hpz⟩ := plcs_mem.mp h
        rcases List.mem_cons.mp hz with hzx | hz
        · rw [hzx] at hpz
          exact hpz.elim (fun h => .inl (h ▸ hb)) .inr
        · rw [List.mem_singleton.mp hz] at hpz
          exact hpz.elim (fun h => .inr (h.trans hxy)) fun h => .inl (h ▸ he)
    · rintro (h | h)
      · exact .inl h
      · exact .inr (h ▸ end_mem (List.mem_cons_self ..))
  constructor
  · intro hh i j hi hj
    obtain ⟨p, hp, rfl⟩ := L.on i hi
    obtain ⟨q, hq, rfl⟩ := L.on j hj
    have gen : ∀ {c : Str}, Rch (nxts (ws ++ [x, y])) p c → (c ∈ plcs ws → Ga (lle ws lot) (Arc1 (lot (begS x)) (lot (endS y))) (lot p) (lot c)) ∧ (c = endS x → Ga (lle ws lot) (Arc1 (lot (begS x)) (lot (endS y))) (lot p) (lot (begS x))) := fun {c} r => by
      induction r with
      | refl => exact ⟨fun _ => .le (L.po.rf _ hi), fun h => absurd (h ▸ hp) hr⟩
      | step _ h2 ih =>
        obtain ⟨z, hz, rfl, rfl⟩ := nxts_mem.mp h2
        rcases List.mem_append.mp hz with hz | hz
        · have s : Rch (nxts ws) (begS z) (endS z) := Rch.refl.step (nxts_mem.mpr ⟨z, hz, rfl, rfl⟩)
          exact ⟨fun _ => (ih.1 (beg_mem hz)).on L.po ((L.le (beg_mem hz) (end_mem hz)).mpr s), fun h => absurd (h ▸ end_mem hz) hr⟩
        · rcases List.mem_cons.mp hz with rfl | hz
          · exact ⟨fun h => absurd h hr, fun _ => ih.1 hb⟩
          · rw [List.mem_singleton.mp hz] at ih ⊢
            exact ⟨fun _ => .arc (ih.2 hxy) ⟨rfl, rfl⟩ (L.po.rf _ (L.lt _ he)), fun h => absurd (h ▸ he) hr⟩
    exact (gen (hh p ((pl p).mpr (.inl hp)) q ((pl q).mpr (.inl hq)))).1 hq
  · intro S
    have up : ∀ {a b : Str}, Rch (nxts ws) a b → Rch (nxts (ws ++ [x, y])) a b := fun h => rch_mono (fun x hx => List.mem_append_left _ hx) h
    have sx : endS x ∈ nxts (ws ++ [x, y]) (begS x) := nxts_mem.mpr ⟨x, by simp, rfl, rfl⟩
    have sy : endS y ∈ nxts (ws ++ [x, y]) (endS x) := nxts_mem.mpr ⟨y, by simp, hxy, rfl⟩
    have gen : ∀ {p : Str}, p ∈ plcs ws → ∀ {j : Nat}, Ga (lle ws lot) (Arc1 (lot (begS x)) (lot (endS y))) (lot p) j → ∀ q ∈ plcs ws, lot q = j → Rch (nxts (ws ++ [x, y])) p q := fun {p} hp {j} g => by
      induction g with
      | le h =>
        rintro q hq rfl
        exact up ((L.le hp hq).mp h)
      | arc _ a b ih =>
        rintro q hq rfl
        obtain ⟨rfl, rfl⟩ := a
        exact (((ih _ hb rfl).step sx).step sy).trans (up ((L.le he hq).mp b))
    have main : ∀ p ∈ plcs ws, ∀ q ∈ plcs ws, Rch (nxts (ws ++ [x, y])) p q := fun p hp q hq => gen hp (S _ _ (L.lt p hp) (L.lt q hq)) q hq rfl
    have fromR : ∀ q ∈ plcs ws, Rch (nxts (ws ++ [x, y])) (endS x) q := fun q hq => (Rch.refl.step sy).trans (main _ he q hq)
    have toR : ∀ p ∈ plcs ws, Rch (nxts (ws ++ [x, y])) p (endS x) := fun p hp => (main p hp _ hb).step sx
    intro p hp q hq
    rcases (pl p).mp hp with hp | rfl
    · rcases (pl q).mp hq with hq | rfl
      · exact main p hp q hq
      · exact toR p hp
    · rcases (pl q).mp hq with hq | rfl
      · exact fromR q hq
      · exact .refl
theorem double (W : Wl ws n ls) (L : Lt ws m lot) (h2 : 2 ≤ m) (no1 : ¬ ∃ x, Fur ws (plcs ws) ls x ∧ Hang (ws ++ [x])) :
    (∃ x y, Fur ws (plcs ws) ls x ∧ Fur (ws ++ [x]) (plcs ws ++ [endS x]) ls y ∧ Hang (ws ++ [x, y])) ↔
      (3 ≤ n ∧ ∃ e s, (∀ i, Mx m (lle ws lot) i → i = e) ∧ (∀ i, Mx m (flip2 (lle ws lot)) i → i = s) ∧ LongP ws lot e s) ∨ ∃ i j k l, ArcP ws lot i j ∧ ArcP ws lot k l ∧ Sg m (lle ws lot) (Arc2 i j k l) := by
  have n2 := W.n2
  constructor
  · rintro ⟨x, y, hx, hy, hh⟩
    obtain ⟨xl, hb⟩ := hx.len W
    have xn : x ∉ ws := by
      obtain ⟨_, _, _, _, _, h⟩ := hx
      exact h
    obtain ⟨py, hpy, c2, hc2, ey, yn⟩ := hy
    have yw : y ∉ ws := fun h => yn (List.mem_append_left _ h)
    have by_ : begS y = py := by rw [ey, beg_put]
    have xV : x ∈ ws ++ [x, y] := by simp
    have yV : y ∈ ws ++ [x, y] := by simp
    have upP : ∀ p ∈ plcs ws, p ∈ plcs (ws ++ [x, y]) := fun p hp => by
      rw [plcs_app]
      exact List.mem_append_left _ hp
    have mem3 : ∀ z ∈ ws ++ [x, y], z ∈ ws ∨ z = x ∨ z = y := fun z hz => by
      rcases List.mem_append.mp hz with h | h
      · exact .inl h
      · rcases List.mem_cons.mp h with h | h
        · exact .inr (.inl h)
        · exact .inr (.inr (List.mem_singleton.mp h))
    by_cases he : endS x ∈ plcs ws
    · have hpyP : py ∈ plcs ws := (List.mem_append.mp hpy).elim id fun h => by rw [List.mem_singleton.mp h]; exact he
      have hyF : Fur ws (plcs ws) ls y := ⟨py, hpyP, c2, hc2, ey, yw⟩
      obtain ⟨yl, hb2⟩ := hyF.len W
      by_cases he2 : endS y ∈ plcs ws
      · have S := (join2 L hb he hb2 he2).mp hh
        refine .inr ⟨_, _, _, _, win_arc W xn hb he (by omega) fun e => ?_, win_arc W yw hb2 he2 (by omega) fun e => ?_, S⟩
        · refine no1 ⟨y, hyF, (join1 L hb2 he2).mpr (two_idle L.po ?_ S)⟩
          rw [e]
          exact L.po.rf _ (L.lt _ he)
        · refine no1 ⟨x, hx, (join1 L hb he).mpr (two_idle L.po ?_ (two_swap S))⟩
          rw [e]
          exact L.po.rf _ (L.lt _ he2)
      · obtain ⟨z, hz, z1, z2⟩ := dead yV hh (upP _ hb) fun e => he2 (e ▸ hb)
        rcases mem3 z hz with h | h | h
        · exact absurd (z1 ▸ beg_mem h) he2
        · rw [h] at z1
          exact absurd (z1 ▸ hb) he2
        · rw [h] at z1
          exact absurd (z1 ▸ hb2) he2
    · obtain ⟨z, hz, z1, z2⟩ := dead xV hh (upP _ hb) fun e => he (e ▸ hb)
      have zy : z = y := by
        rcases mem3 z hz with h | h | h
        · exact absurd (z1 ▸ beg_mem h) he
        · rw [h] at z1
          exact absurd (z1 ▸ hb) he
        · exact h
      rw [zy] at z1 z2
      have he2 : endS y ∈ plcs ws := by
        by_cases he2 : endS y ∈ plcs ws
        · exact he2
        · obtain ⟨u, hu, u1, u2⟩ := dead yV hh (upP _ hb) fun e => he2 (e ▸ hb)
          rcases mem3 u hu with h | h | h
          · exact absurd (u1 ▸ beg_mem h) he2
          · rw [h] at u1
            exact absurd (u1 ▸ hb) he2
          · rw [h] at u1
            exact absurd (u1.symm.trans z1) z2
      have S := (join_long L hb he z1 he2).mp hh
      obtain ⟨hm, hn⟩ := one_sg h2 S
      obtain ⟨p, hp, c1, hc1, ex, _⟩ := hx
      have bx : begS x = p := by rw [ex, beg_put]
      obtain ⟨pl, pl1⟩ := W.plc hp
      have ex2 : sg (endS x) = (sg p).drop 1 ++ [c1] := by rw [ex, end_put pl1]
      have n3 : 3 ≤ n := by
        by_cases h3 : 3 ≤ n
        · exact h3
        · exfalso
          have l1 : (sg p).length = 1 := by
            have : (sg p).length = n - 1 := pl
            omega
          have d1 : (sg p).drop 1 = [] := List.drop_eq_nil_iff.mpr (by omega)
          rw [d1, List.nil_append] at ex2
          obtain ⟨w, hw, hcw⟩ := (W.let_ c1).mp hc1
          have wl : (sg w).length = 2 := by
            have : (sg w).length = n := W.len w hw
            omega
          match hsw : sg w with
          | [] => rw [hsw] at wl; simp at wl
          | [_] => rw [hsw] at wl; simp at wl
          | [a, b] =>
            rw [hsw] at hcw
            rcases List.mem_cons.mp hcw with h | h
            · refine he ?_
              have : endS x = begS w := sg_inj (by
                rw [ex2]
                show _ = (sg w).dropLast
                rw [hsw, h]
                rfl)
              rw [this]
              exact beg_mem hw
            · refine he ?_
              have : endS x = endS w := sg_inj (by
                rw [ex2]
                show _ = (sg w).drop 1
                rw [hsw, List.mem_singleton.mp h]
                rfl)
              rw [this]
              exact end_mem hw
          | _ :: _ :: _ :: _ => rw [hsw] at wl; simp at wl
      refine .inl ⟨n3, _, _, hm, hn, all_one L.po h2 hm hn, begS x, endS y, hb, he2, rfl, rfl, ?_⟩
      have rl : 1 ≤ (endS x).length := by
        rw [len_end, xl]
        omega
      have epy : py = endS x := by rw [← by_, z1]
      have ey2 : sg (endS y) = (sg (endS x)).drop 1 ++ [c2] := by
        rw [ey, epy, end_put rl]
      have sp : 2 ≤ (sg p).length := by
        have : (sg p).length = n - 1 := pl
        omega
      have d2 : (sg (endS x)).drop 1 = (sg p).drop 2 ++ [c1] := by
        rw [ex2, List.drop_append_of_le_length (by rw [List.length_drop]; omega), List.drop_drop]
      have bq : sg (begS (endS y)) = (sg p).drop 2 ++ [c1] := by
        show (sg (endS y)).dropLast = _
        rw [ey2, List.dropLast_concat, d2]
      have lq : lstc (begS (endS y)) = c1 := by
        unfold lstc
        rw [bq]
        simp
      rw [bx]
      refine ⟨sg_inj ?_, ?_⟩
      · show (((sg p).drop 1).drop 1) = (sg (begS (endS y))).dropLast
        rw [bq, List.dropLast_concat, List.drop_drop]
      · rw [lq]
        have : endS p ++ one1 c1 = endS x := sg_inj (by
          rw [sg_put, ex2]
          rfl)
        rw [this]
        exact he
  · rintro (⟨n3, e, s, hm, hn, _, p, q, hp, hq, h1, h3, h4, h5⟩ | ⟨i, j, k, l, ha, hb, S⟩)
    · have lp := W.plc hp
      have lq := W.plc hq
      have epl : 1 ≤ (endS p).length := by
        rw [len_end]
        omega
      have bql : 1 ≤ (begS q).length := by
        rw [len_beg]
        omega
      have ex : endS (p ++ one1 (lstc (begS q))) = endS p ++ one1 (lstc (begS q)) := sg_inj (by rw [end_put lp.2, sg_put]; rfl)
      have rl : 1 ≤ (endS p ++ one1 (lstc (begS q))).length := by
        rw [len_put]
        omega
      have er : endS (endS p ++ one1 (lstc (begS q))) = begS q := end_is epl bql h4
      have ey : endS ((endS p ++ one1 (lstc (begS q))) ++ one1 (lstc q)) = q := end_is rl lq.2 er
      have c1 : lstc (begS q) ∈ ls := W.sgn hq (List.dropLast_subset _ (lst_mem bql))
      have c2 : lstc q ∈ ls := W.sgn hq (lst_mem lq.2)
      have bx := beg_put p (lstc (begS q))
      have by_ := beg_put (endS p ++ one1 (lstc (begS q))) (lstc q)
      refine ⟨p ++ one1 (lstc (begS q)), (endS p ++ one1 (lstc (begS q))) ++ one1 (lstc q), ⟨p, hp, _, c1, rfl, fun h => h5 (by rw [← ex]; exact end_mem h)⟩, ⟨endS p ++ one1 (lstc (begS q)), List.mem_append_right _ (by rw [ex]; exact List.mem_singleton.mpr rfl), _, c2, rfl, fun h => ?_⟩, ?_⟩
      · rcases List.mem_append.mp h with h | h
        · exact h5 (by rw [← by_]; exact beg_mem h)
        · have := congrArg begS (List.mem_singleton.mp h)
          rw [by_, bx] at this
          exact h5 (by rw [this]; exact hp)
      · refine (join_long L (by rw [bx]; exact hp) (by rw [ex]; exact h5) (by rw [by_, ex]) (by rw [ey]; exact hq)).mpr ?_
        rw [bx, ey, h1, h3]
        exact sg_one L.po hm hn
    · obtain ⟨x, hx, xb, xe, x1, x2⟩ := arc_win W ha
      obtain ⟨y, hy, yb, ye, y1, y2⟩ := arc_win W hb
      refine ⟨x, y, hx, ?_, (join2 L xb xe yb ye).mpr (by rw [x1, x2, y1, y2]; exact S)⟩
      obtain ⟨p, hp, c, hc, rfl, hn⟩ := hy
      refine ⟨p, List.mem_append_left _ hp, c, hc, rfl, fun h => ?_⟩
      rcases List.mem_append.mp h with h | h
      · exact hn h
      · have h := List.mem_singleton.mp h
        rw [h] at y1 y2
        refine no1 ⟨x, hx, (join1 L xb xe).mpr ?_⟩
        rw [← x1, ← x2, ← y1, ← y2, x1, x2] at S
        rw [x1, x2]
        exact two_same S
end
end My

/-! the fewest windows that join -/
namespace My
open PySem PySem.Spec PyProof.Rows L2 Evl
def letsOf (ws : List Str) : List Nat := ws.flatMap sg
theorem letsOf_mem {ws : List Str} {c : Nat} : c ∈ letsOf ws ↔ ∃ x ∈ ws, c ∈ sg x := List.mem_flatMap
def One (ws : List Str) : Prop := ∃ x, Fur ws (plcs ws) (letsOf ws) x ∧ Hang (ws ++ [x])
def Two2 (ws : List Str) : Prop := ∃ x y, Fur ws (plcs ws) (letsOf ws) x ∧ Fur (ws ++ [x]) (plcs ws ++ [endS x]) (letsOf ws) y ∧ Hang (ws ++ [x, y])
open Classical in
noncomputable def fewN (ws : List Str) : Option Nat := if Hang ws then some 0 else if One ws then some 1 else if Two2 ws then some 2 else none
/-- the tops, in their order -/
noncomputable def tops (m : Nat) (le : Nat → Nat → Prop) : List Nat := (List.range m).filter fun i => @decide (Mx m le i) (Classical.propDecidable _)
theorem tops_mem {m : Nat} {le : Nat → Nat → Prop} {i : Nat} : i ∈ tops m le ↔ Mx m le i := by
  unfold tops
  rw [List.mem_filter, List.mem_range, @decide_eq_true_iff _ (Classical.propDecidable _)]
  exact ⟨fun h => h.2, fun h => ⟨h.1, h⟩⟩
theorem tops_nd (m : Nat) (le : Nat → Nat → Prop) : (tops m le).Nodup := List.nodup_range.filter _
theorem tops_pos {m : Nat} {le : Nat → Nat → Prop} (P : Po m le) (h : 0 < m) : 0 < (tops m le).length := by
  obtain ⟨e, he, _⟩ := P.top h
  exact List.length_pos_of_mem (tops_mem.mpr he)
theorem tops_le2 {m : Nat} {le : Nat → Nat → Prop} {a b : Nat} (h : ∀ i, Mx m le i → i = a ∨ i = b) : (tops m le).length ≤ 2 :=
  nodup_len (l := [a, b]) (tops_nd m le) fun i hi => by
    rcases h i (tops_mem.mp hi) with rfl | rfl <;> simp
theorem tops_le1 {m : Nat} {le : Nat → Nat → Prop} {a : Nat} (h : ∀ i, Mx m le i → i = a) : (tops m le).length ≤ 1 :=
  nodup_len (l := [a]) (tops_nd m le) fun i hi => by rw [h i (tops_mem.mp hi)]; simp
theorem one_of {l : List Nat} (h : l.length = 1) : ∃ a, l = [a] := by
  match l, h with
  | [a], _ => exact ⟨a, rfl⟩
theorem two_of {l : List Nat} (h : l.length = 2) : ∃ a b, l = [a, b] := by
  match l, h with
  | [a, b], _ => exact ⟨a, b, rfl⟩
/-- what the search looks at: the arcs for the first place and for the second one -/
def Sel1 (E S : List Nat) (a : Nat × Nat) : Prop := if E.length = 2 then a.1 = E.getD 0 0 else if S.length = 2 then a.2 = S.getD 0 0 else a.1 = E.getD 0 0
def Sel2 (E S : List Nat) (a : Nat × Nat) : Prop := if E.length = 2 then a.1 = E.getD 1 0 else if S.length = 2 then a.2 = S.getD 1 0 else a.2 = S.getD 0 0
section
variable {ws : List Str} {m n : Nat} {lot : Str → Nat}
theorem Wl.own {n : Nat} (h2 : 2 ≤ n) (h : ∀ x ∈ ws, x.length = n) (ne : ws ≠ []) : Wl ws n (letsOf ws) := ⟨h2, h, ne, fun c => letsOf_mem⟩
theorem sel_pair {le : Nat → Nat → Prop} (h2 : 2 ≤ m) {i j k l : Nat} (S : Sg m le (Arc2 i j k l)) (no : ¬ ((tops m le).length = 1 ∧ (tops m (flip2 le)).length = 1 ∧ ((i = (tops m le).getD 0 0 ∧ j = (tops m (flip2 le)).getD 0 0) ∨ (k = (tops m le).getD 0 0 ∧ l = (tops m (flip2 le)).getD 0 0))))
    (P : Po m le) : (Sel1 (tops m le) (tops m (flip2 le)) (i, j) ∧ Sel2 (tops m le) (tops m (flip2 le)) (k, l)) ∨ (Sel1 (tops m le) (tops m (flip2 le)) (k, l) ∧ Sel2 (tops m le) (tops m (flip2 le)) (i, j)) := by
  obtain ⟨hm, hn⟩ := two_sg h2 S
  have e1 := tops_le2 hm
  have e2 := tops_le2 hn
  have p1 := tops_pos P (show 0 < m by omega)
  have p2 := tops_pos P.flip (show 0 < m by omega)
  have hE : ∀ a ∈ tops m le, a = i ∨ a = k := fun a ha => hm a (tops_mem.mp ha)
  have hS : ∀ a ∈ tops m (flip2 le), a = j ∨ a = l := fun a ha => hn a (tops_mem.mp ha)
  have nd1 := tops_nd m le
  have nd2 := tops_nd m (flip2 le)
  generalize tops m le = E at *
  generalize tops m (flip2 le) = T at *
  unfold Sel1 Sel2
  by_cases hE2 : E.length = 2
  · rw [if_pos hE2, if_pos hE2, if_pos hE2, if_pos hE2]
    obtain ⟨a, b, rfl⟩ := two_of hE2
    have hab : a ≠ b := fun e => (List.nodup_cons.mp nd1).1 (by rw [e]; simp)
    have ha := hE a (by simp)
    have hb := hE b (by simp)
    show (i = a ∧ k = b) ∨ (k = a ∧ i = b)
    rcases ha with rfl | rfl
    · rcases hb with h | rfl
      · exact absurd h.symm hab
      · exact .inl ⟨rfl, rfl⟩
    · rcases hb with rfl | h
      · exact .inr ⟨rfl, rfl⟩
      · exact absurd h.symm hab
  · rw [if_neg hE2, if_neg hE2, if_neg hE2, if_neg hE2]
    by_cases hT2 : T.length = 2
    · rw [if_pos hT2, if_pos hT2, if_pos hT2, if_pos hT2]
      obtain ⟨a, b, rfl⟩ := two_of hT2
      have hab : a ≠ b := fun e => (List.nodup_cons.mp nd2).1 (by rw [e]; simp)
      have ha := hS a (by simp)
      have hb := hS b (by simp)
      show (j = a ∧ l = b) ∨ (l = a ∧ j = b)
      rcases ha with rfl | rfl
      · rcases hb with h | rfl
        · exact absurd h.symm hab
        · exact .inl ⟨rfl, rfl⟩
      · rcases hb with rfl | h
        · exact .inr ⟨rfl, rfl⟩
        · exact absurd h.symm hab
    · rw [if_neg hT2, if_neg hT2, if_neg hT2, if_neg hT2]
      obtain ⟨a, rfl⟩ := one_of (show E.length = 1 by omega)
      obtain ⟨b, rfl⟩ := one_of (show T.length = 1 by omega)
      have ha := hE a (by simp)
      have hb := hS b (by simp)
      show (i = a ∧ l = b) ∨ (k = a ∧ j = b)
      have no : ¬ ((i = a ∧ j = b) ∨ (k = a ∧ l = b)) := fun h => no ⟨rfl, rfl, h⟩
      rcases ha with rfl | rfl
      · rcases hb with rfl | rfl
        · exact absurd (.inl ⟨rfl, rfl⟩) no
        · exact .inl ⟨rfl, rfl⟩
      · rcases hb with rfl | rfl
        · exact .inr ⟨rfl, rfl⟩
        · exact absurd (.inr ⟨rfl, rfl⟩) no
/-- what the program tells -/
structure Told (ws : List Str) (m n : Nat) (lot : Str → Nat) (r : Option Nat) : Prop where
  many : 2 < (tops m (lle ws lot)).length ∨ 2 < (tops m (flip2 (lle ws lot))).length → r = none
  one : (tops m (lle ws lot)).length = 1 → (tops m (flip2 (lle ws lot))).length = 1 → ArcP ws lot ((tops m (lle ws lot)).getD 0 0) ((tops m (flip2 (lle ws lot))).getD 0 0) → r = some 1
  rest : ¬ (2 < (tops m (lle ws lot)).length ∨ 2 < (tops m (flip2 (lle ws lot))).length) → ¬ ((tops m (lle ws lot)).length = 1 ∧ (tops m (flip2 (lle ws lot))).length = 1 ∧ ArcP ws lot ((tops m (lle ws lot)).getD 0 0) ((tops m (flip2 (lle ws lot))).getD 0 0)) →
    (r = some 2 ∧ ((3 ≤ n ∧ (tops m (lle ws lot)).length = 1 ∧ (tops m (flip2 (lle ws lot))).length = 1 ∧ LongP ws lot ((tops m (lle ws lot)).getD 0 0) ((tops m (flip2 (lle ws lot))).getD 0 0)) ∨ ∃ a b : Nat × Nat, ArcP ws lot a.1 a.2 ∧ ArcP ws lot b.1 b.2 ∧ Sg m (lle ws lot) (Arc2 a.1 a.2 b.1 b.2))) ∨
    (r = none ∧ ¬ (3 ≤ n ∧ (tops m (lle ws lot)).length = 1 ∧ (tops m (flip2 (lle ws lot))).length = 1 ∧ LongP ws lot ((tops m (lle ws lot)).getD 0 0) ((tops m (flip2 (lle ws lot))).getD 0 0)) ∧ ∀ a b : Nat × Nat, ArcP ws lot a.1 a.2 → ArcP ws lot b.1 b.2 → Sel1 (tops m (lle ws lot)) (tops m (flip2 (lle ws lot))) a → Sel2 (tops m (lle ws lot)) (tops m (flip2 (lle ws lot))) b → ¬ Sg m (lle ws lot) (Arc2 a.1 a.2 b.1 b.2))
theorem uniq_iff {le : Nat → Nat → Prop} (P : Po m le) (h0 : 0 < m) {e : Nat} : (∀ i, Mx m le i → i = e) ↔ tops m le = [e] := by
  constructor
  · intro h
    obtain ⟨a, ha⟩ := one_of (show (tops m le).length = 1 by
      have := tops_le1 h
      have := tops_pos P h0
      omega)
    have := h a (tops_mem.mp (by rw [ha]; simp))
    rw [ha, this]
  · intro h i hi
    have := tops_mem.mpr hi
    rw [h] at this
    exact List.mem_singleton.mp this
theorem told_few (W : Wl ws n (letsOf ws)) (L : Lt ws m lot) (h2 : 2 ≤ m) {r : Option Nat} (T : Told ws m n lot r) : r = fewN ws := by
  have P := L.po
  have h0 : 0 < m := by omega
  have nh : ¬ Hang ws := fun h => by have := L.hang.mp h; omega
  have sing := single W L h2
  have oneIff : One ws ↔ (tops m (lle ws lot)).length = 1 ∧ (tops m (flip2 (lle ws lot))).length = 1 ∧ ArcP ws lot ((tops m (lle ws lot)).getD 0 0) ((tops m (flip2 (lle ws lot))).getD 0 0) := by
    refine sing.trans ⟨?_, ?_⟩
    · rintro ⟨e, s, h1, h3, h4⟩
      rw [(uniq_iff P h0).mp h1, (uniq_iff P.flip h0).mp h3]
      exact ⟨rfl, rfl, h4⟩
    · rintro ⟨h1, h3, h4⟩
      obtain ⟨e, he⟩ := one_of h1
      obtain ⟨s, hs⟩ := one_of h3
      rw [he, hs] at h4
      exact ⟨e, s, (uniq_iff P h0).mpr he, (uniq_iff P.flip h0).mpr hs, h4⟩
  unfold fewN
  rw [if_neg nh]
  by_cases h1 : One ws
  · rw [if_pos h1]
    obtain ⟨a, b, c⟩ := oneIff.mp h1
    exact T.one a b c
  · rw [if_neg h1]
    have dbl := double W L h2 h1
    by_cases hb : 2 < (tops m (lle ws lot)).length ∨ 2 < (tops m (flip2 (lle ws lot))).length
    · rw [T.many hb, if_neg]
      intro h
      rcases dbl.mp h with ⟨_, e, s, u1, u2, _⟩ | ⟨i, j, k, l, _, _, S⟩
      · rw [(uniq_iff P h0).mp u1, (uniq_iff P.flip h0).mp u2] at hb
        simp at hb
      · obtain ⟨hm, hn⟩ := two_sg h2 S
        have := tops_le2 hm
        have := tops_le2 hn
        omega
    · rcases T.rest hb fun h => h1 (oneIff.mpr h) with ⟨hr, h⟩ | ⟨hr, hl, ha⟩
      · rw [hr, if_pos]
        refine dbl.mpr ?_
        rcases h with ⟨n3, l1, l2, lg⟩ | ⟨a, b, h3, h4, S⟩
        · obtain ⟨e, he⟩ := one_of l1
          obtain ⟨s, hs⟩ := one_of l2
          rw [he, hs] at lg
          exact .inl ⟨n3, e, s, (uniq_iff P h0).mpr he, (uniq_iff P.flip h0).mpr hs, lg⟩
        · exact .inr ⟨_, _, _, _, h3, h4, S⟩
      · rw [hr, if_neg]
        intro h
        rcases dbl.mp h with ⟨n3, e, s, u1, u2, lg⟩ | ⟨i, j, k, l, a1, a2, S⟩
        · refine hl ⟨n3, ?_⟩
          rw [(uniq_iff P h0).mp u1, (uniq_iff P.flip h0).mp u2]
          exact ⟨rfl, rfl, lg⟩
        · have no : ¬ ((tops m (lle ws lot)).length = 1 ∧ (tops m (flip2 (lle ws lot))).length = 1 ∧ ((i = (tops m (lle ws lot)).getD 0 0 ∧ j = (tops m (flip2 (lle ws lot))).getD 0 0) ∨ (k = (tops m (lle ws lot)).getD 0 0 ∧ l = (tops m (flip2 (lle ws lot))).getD 0 0))) := by
            rintro ⟨x1, x2, x3⟩
            refine h1 (oneIff.mpr ⟨x1, x2, ?_⟩)
            rcases x3 with ⟨e1, e2⟩ | ⟨e1, e2⟩
            · rw [← e1, ← e2]
              exact a1
            · rw [← e1, ← e2]
              exact a2
          rcases sel_pair h2 S no P with ⟨s1, s2⟩ | ⟨s1, s2⟩
          · exact ha (i, j) (k, l) a1 a2 s1 s2 S
          · exact ha (k, l) (i, j) a2 a1 s1 s2 (two_swap S)
/-! ### windows of two letters -/
theorem arc_free (W : Wl ws n (letsOf ws)) (L : Lt ws m lot) (n2 : n = 2) {i j : Nat} (hi : i < m) (hj : j < m) (hne : i ≠ j) (no : ¬ lle ws lot i j) : ArcP ws lot i j := by
  obtain ⟨p, hp, rfl⟩ := L.on i hi
  obtain ⟨q, hq, rfl⟩ := L.on j hj
  have lp := W.plc hp
  have lq := W.plc hq
  have e1 : endS p = begS q := sg_inj (by
    have h1 : (sg (endS p)).length = 0 := by
      show (endS p).length = 0
      rw [len_end]
      omega
    have h2 : (sg (begS q)).length = 0 := by
      show (begS q).length = 0
      rw [len_beg]
      omega
    rw [List.length_eq_zero_iff.mp h1, List.length_eq_zero_iff.mp h2])
  refine ⟨hne, p, q, hp, hq, rfl, rfl, e1, fun h => no ?_⟩
  have e2 := end_is lp.2 lq.2 e1
  exact (L.le hp hq).mpr (Rch.refl.step (nxts_mem.mpr ⟨_, h, beg_put _ _, e2⟩))
theorem few_two (W : Wl ws n (letsOf ws)) (L : Lt ws m lot) (h2 : 2 ≤ m) (n2 : n = 2) (e2 : (tops m (lle ws lot)).length ≤ 2) (s2 : (tops m (flip2 (lle ws lot))).length ≤ 2) : fewN ws = some (max (tops m (lle ws lot)).length (tops m (flip2 (lle ws lot))).length) := by
  have P := L.po
  have h0 : 0 < m := by omega
  have nh : ¬ Hang ws := fun h => by have := L.hang.mp h; omega
  have sing := single W L h2
  have p1 := tops_pos P h0
  have p2 := tops_pos P.flip h0
  have topA : ∀ {e j : Nat}, Mx m (lle ws lot) e → j < m → e ≠ j → ArcP ws lot e j := fun he hj hne => arc_free W L n2 he.1 hj hne fun h => hne (he.2 _ h).symm
  have botA : ∀ {i s : Nat}, Mx m (flip2 (lle ws lot)) s → i < m → i ≠ s → ArcP ws lot i s := fun hs hi hne => arc_free W L n2 hi hs.1 hne fun h => hne (hs.2 _ h)
  unfold fewN
  rw [if_neg nh]
  by_cases h11 : (tops m (lle ws lot)).length = 1 ∧ (tops m (flip2 (lle ws lot))).length = 1
  · obtain ⟨e, he⟩ := one_of h11.1
    obtain ⟨s, hs⟩ := one_of h11.2
    have u1 := (uniq_iff P h0).mpr he
    have u2 := (uniq_iff P.flip h0).mpr hs
    have h1 : One ws := sing.mpr ⟨e, s, u1, u2, topA (tops_mem.mp (by rw [he]; simp)) (tops_mem.mp (show s ∈ tops m (flip2 (lle ws lot)) by rw [hs]; simp)).1 (all_one P h2 u1 u2)⟩
    rw [if_pos h1, h11.1, h11.2]
    rfl
  · have h1 : ¬ One ws := fun h => by
      obtain ⟨e, s, u1, u2, _⟩ := sing.mp h
      exact h11 (by rw [(uniq_iff P h0).mp u1, (uniq_iff P.flip h0).mp u2]; exact ⟨rfl, rfl⟩)
    have hmax : max (tops m (lle ws lot)).length (tops m (flip2 (lle ws lot))).length = 2 := by omega
    rw [if_neg h1, hmax, if_pos]
    refine (double W L h2 h1).mpr (.inr ?_)
    have mE : ∀ i, Mx m (lle ws lot) i ↔ i ∈ tops m (lle ws lot) := fun i => tops_mem.symm
    have mS : ∀ i, Mx m (flip2 (lle ws lot)) i ↔ i ∈ tops m (flip2 (lle ws lot)) := fun i => tops_mem.symm
    have ndE := tops_nd m (lle ws lot)
    have ndS := tops_nd m (flip2 (lle ws lot))
    by_cases hE2 : (tops m (lle ws lot)).length = 2
    · obtain ⟨e0, e1, hE⟩ := two_of hE2
      rw [hE] at mE ndE
      have e01 : e0 ≠ e1 := fun e => (List.nodup_cons.mp ndE).1 (by rw [e]; simp)
      have t0 := (mE e0).mpr (by simp)
      have t1 := (mE e1).mpr (by simp)
      have top : ∀ i, i < m → lle ws lot i e0 ∨ lle ws lot i e1 := fun i hi => by
        obtain ⟨t, ht, h⟩ := P.top hi
        have := (mE t).mp ht
        simp at this
        rcases this with rfl | rfl
        · exact .inl h
        · exact .inr h
      by_cases hS2 : (tops m (flip2 (lle ws lot))).length = 2
      · obtain ⟨s0, s1, hS⟩ := two_of hS2
        rw [hS] at mS ndS
        have s01 : s0 ≠ s1 := fun e => (List.nodup_cons.mp ndS).1 (by rw [e]; simp)
        have b0 := (mS s0).mpr (by simp)
        have b1 := (mS s1).mpr (by simp)
        have bot : ∀ i, i < m → lle ws lot s0 i ∨ lle ws lot s1 i := fun i hi => by
          obtain ⟨t, ht, h⟩ := P.bot hi
          have := (mS t).mp ht
          simp at this
          rcases this with rfl | rfl
          · exact .inl h
          · exact .inr h
        -- a matching: x below e1, y below e0
        have mat : ∃ x y, (x = s0 ∧ y = s1 ∨ x = s1 ∧ y = s0) ∧ lle ws lot x e1 ∧ lle ws lot y e0 := by
          rcases bot e1 t1.1 with h | h
          · rcases bot e0 t0.1 with h' | h'
            · rcases top s1 b1.1 with h'' | h''
              · exact ⟨s0, s1, .inl ⟨rfl, rfl⟩, h, h''⟩
              · exact ⟨s1, s0, .inr ⟨rfl, rfl⟩, h'', h'⟩
            · exact ⟨s0, s1, .inl ⟨rfl, rfl⟩, h, h'⟩
          · rcases bot e0 t0.1 with h' | h'
            · exact ⟨s1, s0, .inr ⟨rfl, rfl⟩, h, h'⟩
            · rcases top s0 b0.1 with h'' | h''
              · exact ⟨s1, s0, .inr ⟨rfl, rfl⟩, h, h''⟩
              · exact ⟨s0, s1, .inl ⟨rfl, rfl⟩, h'', h'⟩
        obtain ⟨x, y, hxy, hx, hy⟩ := mat
        have xm := (P.lt _ _ hx).1
        have ym := (P.lt _ _ hy).1
        have e0x : e0 ≠ x := fun e => e01 (t0.2 _ (by rw [e]; exact hx)).symm
        have e1y : e1 ≠ y := fun e => e01 (t1.2 _ (by rw [e]; exact hy))
        have bot2 : ∀ j, j < m → lle ws lot x j ∨ lle ws lot y j := fun j hj => by
          rcases hxy with ⟨rfl, rfl⟩ | ⟨rfl, rfl⟩
          · exact bot j hj
          · exact (bot j hj).symm
        refine ⟨e0, x, e1, y, topA t0 xm e0x, topA t1 ym e1y, fun i j hi hj => ?_⟩
        have g0 : ∀ {i : Nat}, lle ws lot i e0 → Ga (lle ws lot) (Arc2 e0 x e1 y) i x := fun h => .arc (.le h) (.inl ⟨rfl, rfl⟩) (P.rf _ xm)
        have g1 : ∀ {i : Nat}, lle ws lot i e1 → Ga (lle ws lot) (Arc2 e0 x e1 y) i y := fun h => .arc (.le h) (.inr ⟨rfl, rfl⟩) (P.rf _ ym)
        have toX : Ga (lle ws lot) (Arc2 e0 x e1 y) i x := by
          rcases top i hi with h | h
          · exact g0 h
          · exact (g1 h).trans P (g0 hy)
        have toY : Ga (lle ws lot) (Arc2 e0 x e1 y) i y := by
          rcases top i hi with h | h
          · exact (g0 h).trans P (g1 hx)
          · exact g1 h
        rcases bot2 j hj with h | h
        · exact toX.on P h
        · exact toY.on P h
      · obtain ⟨s, hs⟩ := one_of (show (tops m (flip2 (lle ws lot))).length = 1 by omega)
        have u2 := (uniq_iff P.flip h0).mpr hs
        have bs : Mx m (flip2 (lle ws lot)) s := tops_mem.mp (by rw [hs]; simp)
        have bot : ∀ j, j < m → lle ws lot s j := fun j hj => by
          obtain ⟨b, hb, h⟩ := P.bot hj
          rw [u2 b hb] at h
          exact h
        have e0s : e0 ≠ s := fun e => e01 (t0.2 _ (by rw [e]; exact bot e1 t1.1)).symm
        have e1s : e1 ≠ s := fun e => e01 (t1.2 _ (by rw [e]; exact bot e0 t0.1))
        refine ⟨e0, s, e1, s, topA t0 bs.1 e0s, topA t1 bs.1 e1s, fun i j hi hj => ?_⟩
        rcases top i hi with h | h
        · exact .arc (.le h) (.inl ⟨rfl, rfl⟩) (bot j hj)
        · exact .arc (.le h) (.inr ⟨rfl, rfl⟩) (bot j hj)
    · obtain ⟨e, he⟩ := one_of (show (tops m (lle ws lot)).length = 1 by omega)
      obtain ⟨s0, s1, hS⟩ := two_of (show (tops m (flip2 (lle ws lot))).length = 2 by omega)
      rw [hS] at mS ndS
      have s01 : s0 ≠ s1 := fun e => (List.nodup_cons.mp ndS).1 (by rw [e]; simp)
      have b0 := (mS s0).mpr (by simp)
      have b1 := (mS s1).mpr (by simp)
      have u1 := (uniq_iff P h0).mpr he
      have te : Mx m (lle ws lot) e := tops_mem.mp (by rw [he]; simp)
      have top : ∀ i, i < m → lle ws lot i e := fun i hi => by
        obtain ⟨b, hb, h⟩ := P.top hi
        rw [u1 b hb] at h
        exact h
      have es0 : e ≠ s0 := fun q => s01 (b0.2 _ (by rw [← q]; exact top s1 b1.1)).symm
      have es1 : e ≠ s1 := fun q => s01 (b1.2 _ (by rw [← q]; exact top s0 b0.1))
      refine ⟨e, s0, e, s1, topA te b0.1 es0, topA te b1.1 es1, fun i j hi hj => ?_⟩
      obtain ⟨b, hb, h⟩ := P.bot hj
      have := (mS b).mp hb
      simp at this
      rcases this with rfl | rfl
      · exact .arc (.le (top i hi)) (.inl ⟨rfl, rfl⟩) h
      · exact .arc (.le (top i hi)) (.inr ⟨rfl, rfl⟩) h
end
end My

/-! ranges as values; dicts of truths with numbers or pairs as keys -/
namespace My
open PySem PySem.Spec PyProof.Rows L2 Evl
section
variable {X : Cx} {tg : Expr}
/-- a block in a block -/
theorem relab {en : Env} : ∀ {names : List (Str × NameKind)} {x : Str}, names.lookup x = some .cell ∨ names.lookup x = some .free →
    (names.map fun (n, k) => if (k == NameKind.free && en.scope.kind == .function && en.kindOf n == some .cell) then (n, NameKind.cell) else (n, k)).lookup x = some .cell ∨ (names.map fun (n, k) => if (k == NameKind.free && en.scope.kind == .function && en.kindOf n == some .cell) then (n, NameKind.cell) else (n, k)).lookup x = some .free
  | [], _, h => by simp at h
  | (n, k) :: r, x, h => by
    have ih := @relab en r x
    show List.lookup x ((if (k == NameKind.free && en.scope.kind == .function && en.kindOf n == some .cell) = true then (n, NameKind.cell) else (n, k)) :: _) = _ ∨ List.lookup x ((if (k == NameKind.free && en.scope.kind == .function && en.kindOf n == some .cell) = true then (n, NameKind.cell) else (n, k)) :: _) = _
    cases hx : x == n with
    | true =>
      simp only [List.lookup_cons, hx] at h
      by_cases hc : (k == NameKind.free && en.scope.kind == .function && en.kindOf n == some .cell) = true
      · rw [if_pos hc]; simp only [List.lookup_cons, hx]; exact .inl trivial
      · rw [if_neg hc]; simp only [List.lookup_cons, hx]; exact h
    | false =>
      simp only [List.lookup_cons, hx] at h
      by_cases hc : (k == NameKind.free && en.scope.kind == .function && en.kindOf n == some .cell) = true
      · rw [if_pos hc]; simp only [List.lookup_cons, hx]; exact ih h
      · rw [if_neg hc]; simp only [List.lookup_cons, hx]; exact ih h
theorem blkOk_in {N : List Str} {sc scope : Scope} {own : List (Str × Nat)} {s : Shared} {H : Hp} {C : Addr} {cl : List (Str × Addr)} {en : Env} {fp : List Addr} (h : blkC N sc scope own = true) : BlkOk N (X.blk s H sc (compEnvC sc cl C en) fp).env.scope scope own := by
  obtain ⟨h1, h2, h3, h4, h5⟩ := blkOk_by h
  exact ⟨h1, h2, h3, fun y hy e => (relab (h4 y hy e)), h5⟩
theorem cr_range1 : CallR X (.type "range") (fun vs H Q => ∃ j, vs = [V.int j] ∧ ∀ p, H p = none → Q (.ref p) (upd H p (.rng 0 j))) := by
  intro pins s σ H vs us Q I r h
  obtain ⟨j, rfl, q⟩ := h
  obtain ⟨u, rfl, ru⟩ := vals1 r
  obtain ⟨t, rfl⟩ := ru
  refine call_range_1 ⟨.ref s.heap.objs.size, upd H s.heap.objs.size (.rng 0 j), I.laid (t' := s.toks + 1 + 1) (fun b o e => Heap.get?_push_of_some _ e) (Nat.le_refl _) ?_, rfl, q _ (I.hok.fresh (Nat.le_refl _))⟩
  exact ⟨s.toks, t, s.toks + 1, Heap.get?_push_size _ rfl⟩
def iRngV (tl : TE) : TI := fun σ H R => tl σ H fun x H1 => ∃ a lo hi, x = .ref a ∧ H1 a = some (.rng lo hi) ∧ (-(2 ^ 62) ≤ lo ∧ lo < 2 ^ 62 ∧ -(2 ^ 62) ≤ hi ∧ hi < 2 ^ 62) ∧ R (Itr lo (hi - lo).toNat) H1
theorem pi_rng {l : Expr} {tl : TE} (hl : PE X l tl) : PI X tg l (iRngV tl) := by
  refine ⟨fun pins s σ H R I h => ?_⟩
  refine thn (hl.run pins s σ H _ I h) fun v s1 ⟨x, H1, I1, r1, q1⟩ => ?_
  obtain ⟨a, lo, hi, e, ha, ⟨h1, h2, h3, h4⟩, q⟩ := q1
  subst e
  cases r1
  obtain ⟨t, u, v, ho⟩ := I1.hok a _ ha
  refine wpAny_pyIter_range ho (small_one h1 h2 h3 h4) ?_
  refine ⟨s1.heap.objs.size, [s1.heap.objs.size], _, _, H1, rfl, I1.kept (t' := s1.toks) fun b o e => Heap.get?_push_of_some _ e, turn_range _ lo (hi - lo).toNat, ?_, fun b hb => ?_, q⟩
  · have e1 : lo + ((0 : Nat) : Int) * 1 = lo := by simp
    have e2 : (((hi - lo).toNat : Nat) : Int) - ((0 : Nat) : Int) = Builtin.Range.rangeSize lo hi 1 := by rw [rangeSize_one]; split <;> omega
    show IsRangeIter _ _ (lo + ((0 : Nat) : Int) * 1) ((((hi - lo).toNat : Nat) : Int) - ((0 : Nat) : Int)) 1
    rw [e1, e2]
    exact Heap.get?_push_size _ rfl
  · have e : b = s1.heap.objs.size := by simpa using hb
    subst e
    exact I1.fpOk (Nat.le_refl _) (I1.hok.fresh (Nat.le_refl _))
end
/-- a list or a text, walked -/
def iOr (t u : TI) : TI := fun σ H R => t σ H R ∨ u σ H R
theorem pi_or {X : Cx} {tg e : Expr} {t u : TI} (h1 : PI X tg e t) (h2 : PI X tg e u) : PI X tg e (iOr t u) := ⟨fun pins s σ H R I h => h.elim (fun h => h1.run pins s σ H R I h) fun h => h2.run pins s σ H R I h⟩
/-! ### sorted of a tuple of texts -/
section
variable {X : Cx} {K : PySem.W.Frag}
def rSortTp (K : PySem.W.Frag) : List V → Hp → VK → Prop := fun xs H Q => ∃ (a : Addr) (ks : List Str), xs = [.ref a] ∧ SqT K H a (ks.map V.str) ∧ ks.length ≤ 100000 ∧ ∀ p, H p = none → Q (.ref p) (upd H p (.lst ((sortS ks).map V.str)))
theorem cr_sortTp (hu : X.A.units + 64 < cLine) (hK : X.K = K := by rfl) : CallR X (.builtin "sorted") (rSortTp K) := by
  subst hK
  intro pins st σ H xs us Q I r q
  obtain ⟨a, ks, rfl, hs, hmax, q⟩ := q
  obtain ⟨its, rv, ⟨o, ho, hc, n, hd⟩, _⟩ := I.tuple hs
  rw [Vals.ref1 r]
  have big : 100000 ≤ sizeLine := by decide
  have hS : StrsAre its ks := rv.strs
  have alen : its.length = ks.length := by rw [← rv.length, List.length_map]
  refine Calls.call_function_entry PyProof.Rows.kind_sorted PyProof.Rows.plain_sorted PyProof.Rows.entry_sorted (PyProof.Rows.args_sorted1 _) ?_
  unfold Builtin.«sorted»
  refine wpAny_bind (m := checkCount "sorted" 1 1 _) (wpAny_pure ?_)
  refine wpAny_bind (wpAny_collect_seq a (.inr rfl) ho hc hd (fun h2 kept => ?_) (by rw [List.size_toArray]; omega))
  have I2 : Inv X pins σ H { st with heap := h2 } := I.kept (t' := st.toks) kept
  refine wpAny_bind (wpAny_newList ?_ (by show its.length ≤ _; omega))
  have hobj : (h2.push (seqObj "list" its.toArray 0)).get? h2.objs.size = some (seqObj "list" its.toArray 0) := Heap.get?_push_size _ rfl
  show wpAny _ _ _ _ _ { st with heap := h2.push (seqObj "list" its.toArray 0) }
  refine wpAny_bind (wpAny_holding (PySem.W.list_sort_data (A := X.A.in1) (R := fun v (b : Str) => ∃ t, v = Value.str b t) (enc := fun b : Str => PyData.str b) (bs := ks) hobj (each_strs hS) ((each_strs hS).mono fun v b ⟨t, e⟩ => ?_)
    (PySem.W.AllAlike.of fun _ _ => rfl) (PySem.W.Sortable.others fun _ => ⟨(fun z => nomatch z), (fun _ z => nomatch z)⟩) (by omega) (fun b _ => ?_) fun out olen eo => ?_))
  · subst e
    exact ⟨[], .str b t, by simp⟩
  · show X.A.units + 1 + 1 + 0 < cLine
    omega
  rw [le_dataS] at eo
  have hS2 := strs_each eo
  obtain ⟨e', he'⟩ := PyProof.Rows.sortedHeap_at (vs := its) (out := out.toArray) hobj
  have l2 : ((sortS ks).map V.str).length ≤ sizeLine := by
    unfold sortS
    rw [List.length_map, List.length_mergeSort]
    omega
  refine wpAny_pure ⟨_, rfl, .ref h2.objs.size, upd H h2.objs.size (.lst ((sortS ks).map V.str)), I2.laid (t' := st.toks) (fun b u e => ?_) (Nat.le_refl _)
    (show ObjOk X.prog X.w _ _ _ (.lst ((sortS ks).map V.str)) from ⟨l2, out, e', vals_of_strs hS2, he'⟩), rfl, q _ (I2.hok.fresh (Nat.le_refl _))⟩
  have hb : b < h2.objs.size := Heap.lt_size e
  rw [PyProof.Rows.sortedHeap_old (Nat.ne_of_lt hb) (by rw [size_push']; exact Nat.lt_succ_of_lt hb)]
  exact Heap.get?_push_of_some _ e
end
/-! ### dicts of truths -/
section
variable {α κ : Type} [DecidableEq α] [DecidableEq κ] {e : α → κ}
def truG (e : α → κ) (ks : List α) : List (κ × V) := ks.map fun k => (e k, V.bl true)
def addN (ks : List α) (k : α) : List α := if k ∈ ks then ks else ks ++ [k]
def dedN (xs : List α) : List α := xs.foldl addN []
theorem addN_mem {ks : List α} {k z : α} : z ∈ addN ks k ↔ z ∈ ks ∨ z = k := by
  unfold addN
  split
  · rename_i h
    exact ⟨.inl, fun q => q.elim id fun e => e ▸ h⟩
  · rw [List.mem_append, List.mem_singleton]
theorem addN_nd {ks : List α} (h : ks.Nodup) (k : α) : (addN ks k).Nodup := by
  unfold addN
  split
  · exact h
  · rename_i hn
    exact List.nodup_append.mpr ⟨h, List.nodup_cons.mpr ⟨List.not_mem_nil, List.nodup_nil⟩, fun a ha b hb e => hn (by rw [← List.mem_singleton.mp hb, ← e]; exact ha)⟩
theorem addN_len (ks : List α) (k : α) : (addN ks k).length ≤ ks.length + 1 := by
  unfold addN
  split
  · omega
  · rw [List.length_append]
    exact Nat.le_refl _
theorem truG_len (ks : List α) : (truG e ks).length = ks.length := List.length_map ..
theorem truG_in (inj : ∀ a b, e a = e b → a = b) {k : α} : ∀ {ks : List α}, (valV (truG e ks) (e k)).isSome = decide (k ∈ ks)
  | [] => rfl
  | z :: ks => by
    by_cases h : z = k
    · subst h
      rw [show valV (truG e (z :: ks)) (e z) = some (V.bl true) from valV_pos rfl, decide_eq_true (List.mem_cons_self ..)]
      rfl
    · rw [show valV (truG e (z :: ks)) (e k) = valV (truG e ks) (e k) from valV_neg fun q => h (inj _ _ q), truG_in inj]
      refine decide_eq_decide.mpr ⟨List.mem_cons_of_mem _, fun q => (List.mem_cons.mp q).resolve_left fun q => h q.symm⟩
theorem truG_add (inj : ∀ a b, e a = e b → a = b) (ks : List α) (k : α) : putK (truG e ks) (e k) (V.bl true) = truG e (addN ks k) := by
  unfold addN
  by_cases h : k ∈ ks
  · rw [if_pos h]
    unfold putK
    rw [if_pos (by rw [valV_any, truG_in inj]; exact decide_eq_true h)]
    unfold truG
    rw [List.map_map]
    refine List.map_congr_left fun x _ => ?_
    show (if e x = e k then (e x, V.bl true) else (e x, V.bl true)) = _
    split <;> rfl
  · rw [if_neg h, putK_new _ (by
      have := truG_in (e := e) inj (k := k) (ks := ks)
      rw [decide_eq_false h] at this
      cases q : valV (truG e ks) (e k) with
      | none => rfl
      | some v => rw [q] at this; cases this)]
    unfold truG
    rw [List.map_append]
    rfl
theorem dedN_snoc (xs : List α) (x : α) : dedN (xs ++ [x]) = addN (dedN xs) x := by
  unfold dedN
  rw [List.foldl_append]
  rfl
theorem foldlN_nd : ∀ (xs acc : List α), acc.Nodup → (xs.foldl addN acc).Nodup
  | [], _, h => h
  | x :: xs, acc, h => foldlN_nd xs _ (addN_nd h x)
theorem dedN_nd (xs : List α) : (dedN xs).Nodup := foldlN_nd xs [] List.nodup_nil
theorem foldlN_mem {z : α} : ∀ (xs acc : List α), z ∈ xs.foldl addN acc ↔ z ∈ acc ∨ z ∈ xs
  | [], acc => ⟨.inl, fun h => h.resolve_right List.not_mem_nil⟩
  | x :: xs, acc => by
    rw [List.foldl_cons, foldlN_mem xs, addN_mem, List.mem_cons, or_assoc]
theorem dedN_mem {xs : List α} {z : α} : z ∈ dedN xs ↔ z ∈ xs := by
  rw [dedN, foldlN_mem]
  exact ⟨fun h => h.resolve_left List.not_mem_nil, .inr⟩
theorem foldlN_len : ∀ (xs acc : List α), (xs.foldl addN acc).length ≤ acc.length + xs.length
  | [], acc => Nat.le_refl _
  | x :: xs, acc => by
    have h1 := foldlN_len xs (addN acc x)
    have h2 := addN_len acc x
    rw [List.foldl_cons, List.length_cons]
    omega
theorem dedN_len (xs : List α) : (dedN xs).length ≤ xs.length := by
  have := foldlN_len xs []
  rw [List.length_nil, Nat.zero_add] at this
  exact this
end
abbrev kI (i : Nat) : Key := Sum.inl (i : Int)
theorem kI_inj (a b : Nat) (h : kI a = kI b) : a = b := Int.ofNat_inj.mp (Sum.inl.inj h)
def kP (p : Nat × Nat) : List Key := [kI p.1, kI p.2]
theorem kP_inj (a b : Nat × Nat) (h : kP a = kP b) : a = b := by
  unfold kP at h
  have h1 := List.cons.inj h
  have h2 := List.cons.inj h1.2
  exact Prod.ext (kI_inj _ _ h1.1) (kI_inj _ _ h2.1)
abbrev truI : List Nat → List (Key × V) := truG kI
abbrev truP : List (Nat × Nat) → List (List Key × V) := truG kP
theorem truP_in {ps : List (Nat × Nat)} {p : Nat × Nat} : (valV (truP ps) (kP p)).isSome = decide (p ∈ ps) := (truG_in kP_inj).trans (decide_eq_decide.mpr Iff.rfl)
/-! ### locks -/
theorem lk_foG {H : Hp} {d : Addr} {kvs : List (Key × V)} {td : TE} {g : TG} {tb : TS} {σ : L2.St} {D : Ends} (hd : H d = some (.dK kvs))
    (htd : ∀ (od : Obj) (R : VK), R (.ref d) (upd H d (.frz od (.dK kvs))) → td σ (upd H d (.frz od (.dK kvs))) R) (Pv : Obj → Nat → L2.St → Hp → Prop) (h0 : ∀ od, Pv od 0 σ (upd H d (.frz od (.dK kvs))))
    (hE : ∀ od i σ H', Pv od i σ H' → H' d = some (.frz od (.dK kvs)))
    (hs : ∀ (od : Obj) (i : Nat) (k : Key) (v : V) (σ' : L2.St) (H' : Hp), kvs[i]? = some (k, v) → Pv od i σ' H' → g (kV k) σ' H' fun σ2 H3 => tb { nx := Pv od (i + 1), ct := Pv od (i + 1), bk := fun σ3 H4 => H4 d = some (.frz od (.dK kvs)) ∧ D.nx σ3 (upd H4 d (.dK kvs)), rt := fun v H4 => H4 d = some (.frz od (.dK kvs)) ∧ D.rt v (upd H4 d (.dK kvs)) } σ2 H3)
    (he : ∀ od σ' H', Pv od kvs.length σ' H' → D.nx σ' (upd H' d (.dK kvs))) : tLock (tFor (iKeys td) g tb) D σ H := by
  refine ⟨d, _, hd, trivial, fun od => htd od _ ⟨d, od, rfl, .inl ⟨_, upd_same, ?_⟩⟩⟩
  refine ⟨fun i m σ H => m = kvs.length - i ∧ i ≤ kvs.length ∧ Pv od i σ H, ⟨_, rfl, Nat.zero_le _, h0 od⟩, ?_⟩
  rintro i m σ1 H1 ⟨rfl, hi, pv⟩
  have hf := hE od i σ1 H1 pv
  by_cases hlt : i < kvs.length
  · refine .inr ⟨⟨hf, hlt⟩, Pv od (i + 1), fun σ' H' p' => ⟨kvs.length - (i + 1), by omega, rfl, hlt, p'⟩, fun x H' y => ?_⟩
    obtain ⟨rfl, k, v, hk, rfl⟩ := y
    exact hs od i k v σ1 H' hk pv
  · obtain rfl : i = kvs.length := by omega
    exact .inl ⟨⟨hf, Nat.le_refl _⟩, hf, he od σ1 H1 pv⟩
/-- .. over an onward dict's numbers -/
theorem lk_foI {H : Hp} {d : Addr} {ks : List Nat} {td : TE} {g : TG} {tb : TS} {σ : L2.St} {D : Ends} (hd : H d = some (.dK (truI ks)))
    (htd : ∀ (od : Obj) (R : VK), R (.ref d) (upd H d (.frz od (.dK (truI ks)))) → td σ (upd H d (.frz od (.dK (truI ks)))) R) (Pv : Obj → Nat → L2.St → Hp → Prop) (h0 : ∀ od, Pv od 0 σ (upd H d (.frz od (.dK (truI ks)))))
    (hE : ∀ od i σ H', Pv od i σ H' → H' d = some (.frz od (.dK (truI ks))))
    (hs : ∀ (od : Obj) (i j : Nat) (σ' : L2.St) (H' : Hp), ks[i]? = some j → Pv od i σ' H' → g (.int j) σ' H' fun σ2 H3 => tb { nx := Pv od (i + 1), ct := Pv od (i + 1), bk := fun σ3 H4 => H4 d = some (.frz od (.dK (truI ks))) ∧ D.nx σ3 (upd H4 d (.dK (truI ks))), rt := fun v H4 => H4 d = some (.frz od (.dK (truI ks))) ∧ D.rt v (upd H4 d (.dK (truI ks))) } σ2 H3)
    (he : ∀ od σ' H', Pv od ks.length σ' H' → D.nx σ' (upd H' d (.dK (truI ks)))) : tLock (tFor (iKeys td) g tb) D σ H :=
  lk_foG hd htd Pv h0 hE (fun od i k v σ' H' hk pv => by
    unfold truI truG at hk
    rw [List.getElem?_map] at hk
    cases hz : ks[i]? with
    | none => rw [hz] at hk; cases hk
    | some j =>
      rw [hz] at hk
      cases hk
      exact hs od i j σ' H' hz pv) fun od σ' H' pv => he od σ' H' (by rw [truG_len] at pv; exact pv)
/-! ### lists of arcs -/
theorem Two.map {α β γ : Type} {R : β → γ → Prop} {f : α → β} : ∀ {as : List α} {bs : List γ}, Two (fun a b => R (f a) b) as bs → Two R (as.map f) bs
  | _, _, .nil => .nil
  | _, _, .cons h t => .cons h (Two.map t)
theorem range_get {α : Type} (ps : List α) (d : α) (f : α → Bool) : ((List.range ps.length).filter fun i => f (ps.getD i d)).map (fun i => ps.getD i d) = ps.filter f := by
  have e : (List.range ps.length).map (fun i => ps.getD i d) = ps := by
    apply List.ext_getElem
    · simp
    · intro i h1 h2
      rw [List.getElem_map, List.getElem_range, List.getD_eq_getElem?_getD, List.getElem?_eq_getElem h2]
      rfl
  have e2 : (fun i => f (ps.getD i d)) = f ∘ fun i => ps.getD i d := rfl
  rw [e2, ← List.filter_map, e]
def ArcAt (H : Hp) (p : Nat × Nat) (v : V) : Prop := ∃ q, v = .ref q ∧ H q = some (.tup [.int (p.1 : Int), .int (p.2 : Int)])
theorem ArcAt.ex {H H' : Hp} {p : Nat × Nat} {v : V} (e : Ex H H') (h : ArcAt H p v) : ArcAt H' p v := by
  obtain ⟨q, h1, h2⟩ := h
  exact ⟨q, h1, e _ _ h2⟩
def ArcsAt (H : Hp) (a : Addr) (l : List (Nat × Nat)) : Prop := ∃ acc, H a = some (.lst acc) ∧ Two (ArcAt H) l acc
theorem ArcsAt.ex {H H' : Hp} {a : Addr} {l : List (Nat × Nat)} (e : Ex H H') (h : ArcsAt H a l) : ArcsAt H' a l := by
  obtain ⟨acc, h1, h2⟩ := h
  exact ⟨acc, e _ _ h1, h2.imp fun _ _ h => h.ex e⟩
theorem src_keysT {Hb : Hp} {d : Addr} {o : Obj} {ps : List (Nat × Nat)} (h : Hb d = some (.frz o (.dT (truP ps)))) : Src (Itkt d o (truP ps)) Hb ps.length (fun i x H => ∃ p, ps[i]? = some p ∧ ArcAt H p x) := by
  have l : (truP ps).length = ps.length := truG_len ps
  refine ⟨fun i H2 e hi => ⟨e _ _ h, by rw [l]; exact hi⟩, fun i H2 e hi => ⟨e _ _ h, by rw [l]; exact hi⟩, fun i H2 x H3 e hi y => ?_⟩
  obtain ⟨rfl, k, v, q, hk, rfl, hq⟩ := y
  refine ⟨Ex.refl _, ?_⟩
  unfold truP truG at hk
  rw [List.getElem?_map] at hk
  cases hz : ps[i]? with
  | none =>
    rw [hz] at hk
    cases hk
  | some z =>
    rw [hz] at hk
    cases hk
    exact ⟨z, rfl, q, rfl, hq⟩
/-- a list of the arcs of a dict of arcs -/
theorem lkT_lc {H : Hp} {d : Addr} {ps : List (Nat × Nat)} {td : TE} {g : TG} {tt : TT} {te : TE} {vs : List Nat} {σ : L2.St} {Q : VK} (hd : H d = some (.dT (truP ps))) (hn : ps.length ≤ 1000000)
    (htd : ∀ (od : Obj) (R : VK), R (.ref d) (upd H d (.frz od (.dT (truP ps)))) → td σ (upd H d (.frz od (.dT (truP ps)))) R) (f : Nat × Nat → Bool)
    (hs : ∀ (od : Obj) (p : Nat × Nat) (x : V) (H2 : Hp) (Y : VK) (Z : Hp → Prop), p ∈ ps → Ex (upd H d (.frz od (.dT (truP ps)))) H2 → ArcAt H2 p x → (f p = true → ∀ H3, Ex H2 H3 → Y x H3) → (f p = false → ∀ H3, Ex H2 H3 → Z H3) →
      g x (wipe σ vs) H2 fun σ2 H3 => wipe σ2 vs = wipe σ vs ∧ tt σ2 H3 fun b H4 => if b = true then te σ2 H4 Y else Z H4)
    (q : ∀ D H', Ex H H' → H D = none → ArcsAt H' D (ps.filter f) → Q (.ref D) H') :
    tLockE (tLc (iKeys td) g tt te vs) σ H Q := by
  refine ⟨d, _, hd, trivial, fun od => htd od _ ⟨d, od, rfl, .inr ⟨_, upd_same, fun D np => ?_⟩⟩⟩
  have nD : H D = none := by
    rw [upd_ne fun e => by rw [e, upd_same] at np; cases np] at np
    exact np
  refine lc_gen (src_keysT upd_same) hn np (fun i => f (ps.getD i (0, 0))) (fun i v H => ArcAt H (ps.getD i (0, 0)) v) (fun i v H H' h e => h.ex e) (fun i v H acc acc' h6 h => ?_) (fun i x H2 Y Z hi e it hy hno => ?_) (fun H' acc e hD ha => ?_)
  · obtain ⟨q, h1, h2⟩ := h
    refine ⟨q, h1, ?_⟩
    rw [upd_ne fun z => by rw [z, h6] at h2; cases h2]
    exact h2
  · obtain ⟨p, hp, hx⟩ := it
    have e1 : ps.getD i (0, 0) = p := by rw [List.getD_eq_getElem?_getD, hp]; rfl
    rw [e1] at hy hno
    exact hs od p x H2 Y Z (List.mem_of_getElem? hp) e hx (fun hf H3 e3 => hy hf x H3 e3 (hx.ex e3)) hno
  · have hd' := e _ _ upd_same
    have Dd : D ≠ d := fun z => by
      rw [z, hd] at nD
      cases nD
    refine ⟨hd', q D _ (unlock_ex hd e) nD ⟨acc, by rw [upd_ne Dd]; exact hD, ?_⟩⟩
    have t := Two.map (R := ArcAt H') (f := fun i => ps.getD i (0, 0)) ha
    rw [range_get] at t
    refine t.imp fun p v h => ?_
    obtain ⟨q, h1, h2⟩ := h
    refine ⟨q, h1, ?_⟩
    rw [upd_ne fun z => by rw [z, hd'] at h2; cases h2]
    exact h2
/-! ### dicts of numbers made at once -/
theorem dc_truI {J : It} {H1 : Hp} {n : Nat} {item : Nat → V → Hp → Prop} {g : TG} {tt : TT} {tk tv : TE} {vs : List Nat} {σ : L2.St} {D : Addr} {Qd : Hp → Prop} (S : Src J H1 n item) (hn : n ≤ 1000000) (f : Nat → Bool) (F : Nat → Nat) (np : H1 D = none)
    (hs : ∀ (i : Nat) (x : V) (H2 : Hp) (C : V → V → Hp → Prop) (Z : Hp → Prop), i < n → Ex H1 H2 → item i x H2 → (f i = true → ∀ H3, Ex H2 H3 → C (.int (F i : Int)) (.bl true) H3) → (f i = false → ∀ H3, Ex H2 H3 → Z H3) →
      g x (wipe σ vs) H2 fun σ2 H3 => wipe σ2 vs = wipe σ vs ∧ tt σ2 H3 fun b H4 => if b = true then tk σ2 H4 fun y H5 => tv σ2 H5 fun v H6 => C y v H6 else Z H4)
    (hd : ∀ H', Ex H1 H' → H' D = some (.dK (truI (dedN (((List.range n).filter f).map F)))) → Qd H') : DcGo J H1 g tt tk tv vs σ D Qd := by
  have big : 1000000 < sizeLine := by decide
  refine ⟨fun i m H => m = n - i ∧ i ≤ n ∧ Ex H1 H ∧ H D = some (.dK (truI (dedN (((List.range i).filter f).map F)))), ⟨n, by simp, Nat.zero_le _, Ex.new np, upd_same⟩, ?_⟩
  rintro i m H ⟨rfl, hi, e, hD⟩
  by_cases hlt : i < n
  · refine .inr ⟨S.go i H e hlt, fun H' => Ex H1 H' ∧ H' D = some (.dK (truI (dedN (((List.range (i + 1)).filter f).map F)))), fun H' p' => ⟨n - (i + 1), by omega, rfl, hlt, p'⟩, fun x H' y => ?_⟩
    obtain ⟨e2, it⟩ := S.yld i H x H' e hlt y
    refine hs i x H' _ _ hlt (e.trans e2) it (fun hf H6 e6 => ?_) (fun hf H5 e5 => ?_)
    · have h6 := (e2.trans e6) _ _ hD
      refine ⟨_, kI (F i), rfl, h6, ?_, Ex.mut (e.trans (e2.trans e6)) np, ?_⟩
      · have l1 := dedN_len (((List.range i).filter f).map F)
        have l2 := List.length_filter_le f (List.range i)
        rw [List.length_range] at l2
        rw [List.length_map] at l1
        rw [truG_len]
        omega
      · rw [upd_same, truG_add kI_inj, List.range_succ, List.filter_append, List.filter_cons_of_pos hf, List.map_append]
        rw [show List.map F (i :: List.filter f []) = [F i] from rfl, dedN_snoc]
    · refine ⟨e.trans (e2.trans e5), ?_⟩
      rw [List.range_succ, List.filter_append, List.filter_cons_of_neg (by rw [hf]; exact Bool.false_ne_true), List.filter_nil, List.append_nil]
      exact (e2.trans e5) _ _ hD
  · obtain rfl : i = n := by omega
    exact .inl ⟨S.stop i H e (Nat.le_refl _), hd H e hD⟩
/-! ### a list of dicts of numbers: what each lot comes to -/
def RowI (H : Hp) (P : Nat → Prop) (v : V) : Prop := ∃ r ks, v = .ref r ∧ H r = some (.dK (truI ks)) ∧ ks.Nodup ∧ ∀ j, j ∈ ks ↔ P j
theorem RowI.ex {H H' : Hp} {P : Nat → Prop} {v : V} (e : Ex H H') (h : RowI H P v) : RowI H' P v := by
  obtain ⟨r, ks, h1, h2, h3⟩ := h
  exact ⟨r, ks, h1, e _ _ h2, h3⟩
theorem RowI.mut {H : Hp} {P : Nat → Prop} {v : V} {D : Addr} {acc acc' : List V} (hD : H D = some (.lst acc)) (h : RowI H P v) : RowI (upd H D (.lst acc')) P v := by
  obtain ⟨r, ks, h1, h2, h3⟩ := h
  refine ⟨r, ks, h1, ?_, h3⟩
  rw [upd_ne fun z => by rw [z, hD] at h2; cases h2]
  exact h2
/-- the list at o has, for each of m, the dict of those above it -/
def Onw (H : Hp) (o : Addr) (m : Nat) (le : Nat → Nat → Prop) : Prop := ∃ acc, H o = some (.lst acc) ∧ acc.length = m ∧ ∀ i, i < m → ∃ v, acc[i]? = some v ∧ RowI H (le i) v
theorem Onw.ex {H H' : Hp} {o : Addr} {m : Nat} {le : Nat → Nat → Prop} (e : Ex H H') (h : Onw H o m le) : Onw H' o m le := by
  obtain ⟨acc, h1, h2, h3⟩ := h
  exact ⟨acc, e _ _ h1, h2, fun i hi => by
    obtain ⟨v, a, b⟩ := h3 i hi
    exact ⟨v, a, b.ex e⟩⟩
theorem onw_two {H : Hp} {o : Addr} {m : Nat} {le : Nat → Nat → Prop} {acc : List V} (h : H o = some (.lst acc)) (t : Two (fun i v => RowI H (le i) v) (List.range m) acc) : Onw H o m le := by
  refine ⟨acc, h, by rw [t.len, List.length_range], fun i hi => ?_⟩
  exact t.get (List.getElem?_range hi)
/-- how many there are below m -/
theorem all_len {m : Nat} {ks : List Nat} (nd : ks.Nodup) (lt : ∀ j ∈ ks, j < m) : ks.length = m ↔ ∀ j, j < m → j ∈ ks := by
  constructor
  · intro h j hj
    by_cases hn : j ∈ ks
    · exact hn
    · exfalso
      have := nodup_len (ks := j :: ks) (l := List.range m) (List.nodup_cons.mpr ⟨hn, nd⟩) fun y hy => List.mem_range.mpr ((List.mem_cons.mp hy).elim (fun e => e ▸ hj) (lt y))
      rw [List.length_range, List.length_cons] at this
      omega
  · intro h
    have h1 := nodup_len nd (l := List.range m) fun y hy => List.mem_range.mpr (lt y hy)
    have h2 := nodup_len (ks := List.range m) (l := ks) List.nodup_range fun y hy => h y (List.mem_range.mp hy)
    rw [List.length_range] at h1 h2
    omega
theorem one_len {ks : List Nat} (nd : ks.Nodup) {i : Nat} (hi : i ∈ ks) : ks.length = 1 ↔ ∀ j ∈ ks, j = i := by
  constructor
  · intro h j hj
    match ks, h with
    | [a], _ =>
      rw [List.mem_singleton.mp hi, List.mem_singleton.mp hj]
  · intro h
    have h1 := nodup_len nd (l := [i]) fun y hy => by rw [h y hy]; exact List.mem_singleton.mpr rfl
    have h2 : 0 < ks.length := List.length_pos_of_mem hi
    have h3 : [i].length = 1 := rfl
    omega
/-! ### what two arcs let come to, step by step -/
def Fst (le : Nat → Nat → Prop) (a b c d : Nat) : Nat → Nat → Prop
  | 0, j => le 0 j
  | k + 1, j => Fst le a b c d k j ∨ (if k % 2 = 0 then Fst le a b c d k a ∧ le b j else Fst le a b c d k c ∧ le d j)
theorem fst_ga {m : Nat} {le : Nat → Nat → Prop} (P : Po m le) {a b c d : Nat} : ∀ {k j : Nat}, Fst le a b c d k j → Ga le (Arc2 a b c d) 0 j
  | 0, j, h => .le h
  | k + 1, j, h => by
    unfold Fst at h
    rcases h with h | h
    · exact fst_ga P h
    · split at h
      · exact .arc (fst_ga P h.1) (.inl ⟨rfl, rfl⟩) h.2
      · exact .arc (fst_ga P h.1) (.inr ⟨rfl, rfl⟩) h.2
theorem fst_four {m : Nat} {le : Nat → Nat → Prop} (P : Po m le) {a b c d j : Nat} : Fst le a b c d 4 j ↔ Com le a b c d j := by
  refine ⟨fun h => (com_ga P).mpr (fst_ga P h), fun h => ?_⟩
  have up : ∀ {k j}, Fst le a b c d k j → Fst le a b c d (k + 1) j := fun h => .inl h
  have s0 : ∀ {j}, le 0 j → Fst le a b c d 0 j := fun h => h
  have s1 : ∀ {k j}, k % 2 = 0 → Fst le a b c d k a → le b j → Fst le a b c d (k + 1) j := fun hk h h2 => .inr (by rw [if_pos hk]; exact ⟨h, h2⟩)
  have s2 : ∀ {k j}, ¬ k % 2 = 0 → Fst le a b c d k c → le d j → Fst le a b c d (k + 1) j := fun hk h h2 => .inr (by rw [if_neg hk]; exact ⟨h, h2⟩)
  rcases h with h | ⟨h1, h2⟩ | ⟨h1, h2⟩ | ⟨h1, h2, h3⟩ | ⟨h1, h2, h3⟩
  · exact up (up (up (up (s0 h))))
  · exact up (up (up (s1 rfl (s0 h1) h2)))
  · exact up (up (s2 (by decide) (up (s0 h1)) h2))
  · exact up (up (s2 (by decide) (s1 rfl (s0 h1) h2) h3))
  · exact up (s1 rfl (s2 (by decide) (up (s0 h1)) h2) h3)
theorem fst_lt {m : Nat} {le : Nat → Nat → Prop} (P : Po m le) {a b c d : Nat} {k j : Nat} (h : Fst le a b c d k j) : j < m := by
  cases fst_ga P h with
  | le h => exact (P.lt _ _ h).2
  | arc _ _ h => exact (P.lt _ _ h).2
end My

/-! how lots are numbered -/
namespace My
open PySem PySem.Spec PyProof.Rows L2 Evl
def Mut2 (ws : List Str) (p q : Str) : Prop := Rch (nxts ws) p q ∧ Rch (nxts ws) q p
noncomputable def muB (ws : List Str) (p q : Str) : Bool := rchB ws p q && rchB ws q p
theorem muB_iff {ws : List Str} {p q : Str} : muB ws p q = true ↔ Mut2 ws p q := by
  unfold muB Mut2
  rw [Bool.and_eq_true, rchB_iff, rchB_iff]
section
variable {ws : List Str}
theorem Mut2.rf {p : Str} : Mut2 ws p p := ⟨.refl, .refl⟩
theorem Mut2.sy {p q : Str} (h : Mut2 ws p q) : Mut2 ws q p := ⟨h.2, h.1⟩
theorem Mut2.tr {p q r : Str} (h : Mut2 ws p q) (h2 : Mut2 ws q r) : Mut2 ws p r := ⟨h.1.trans h2.1, h2.2.trans h.2⟩
structure Kn (ws ks fs : List Str) (lt : Str → Nat) : Prop where
  nd : ks.Nodup
  pl : ∀ f ∈ fs, f ∈ plcs ws
  on : ∀ z ∈ ks, z ∈ plcs ws ∧ ∃ f, fs[lt z]? = some f ∧ Mut2 ws f z
  cl : ∀ a f, fs[a]? = some f → ∀ z, Mut2 ws f z → z ∈ ks ∧ lt z = a
theorem Kn.start (lt : Str → Nat) : Kn ws [] [] lt := ⟨List.nodup_nil, fun f h => (List.not_mem_nil h).elim, fun f h => (List.not_mem_nil h).elim, fun a f h => by simp at h⟩
noncomputable def lt2 (ws : List Str) (p : Str) (n : Nat) (lt : Str → Nat) (z : Str) : Nat := if muB ws p z = true then n else lt z
theorem Kn.far {ks fs : List Str} {lt : Str → Nat} (k : Kn ws ks fs lt) {p : Str} (hp : p ∉ ks) {z : Str} (hz : z ∈ ks) : ¬ Mut2 ws p z := fun h => by
  obtain ⟨_, f, hf, hm⟩ := k.on z hz
  exact hp (k.cl _ f hf p (hm.tr h.sy)).1
theorem Kn.keep {ks fs : List Str} {lt : Str → Nat} (k : Kn ws ks fs lt) {p : Str} (hp : p ∉ ks) {z : Str} (hz : z ∈ ks) (n : Nat) : lt2 ws p n lt z = lt z := by
  unfold lt2
  rw [if_neg fun h => k.far hp hz (muB_iff.mp h)]
theorem Kn.step {ks fs : List Str} {lt : Str → Nat} (k : Kn ws ks fs lt) {p : Str} (hp : p ∉ ks) (pp : p ∈ plcs ws) {rs : List Str} (nd : rs.Nodup) (mem : ∀ q, q ∈ rs ↔ Rch (nxts ws) p q) : Kn ws (ks ++ rs.filter (muB ws p)) (fs ++ [p]) (lt2 ws p fs.length lt) := by
  have hnew : ∀ z, z ∈ rs.filter (muB ws p) ↔ Mut2 ws p z := fun z => by
    rw [List.mem_filter, mem, muB_iff]
    exact ⟨fun h => h.2, fun h => ⟨h.1, h⟩⟩
  refine ⟨List.nodup_append.mpr ⟨k.nd, nd.filter _, fun a ha b hb e => k.far hp ha ((hnew a).mp (e ▸ hb))⟩, fun f hf => ?_, fun z hz => ?_, fun a f hf z hm => ?_⟩
  · rcases List.mem_append.mp hf with h | h
    · exact k.pl f h
    · rw [List.mem_singleton.mp h]
      exact pp
  · rcases List.mem_append.mp hz with h | h
    · obtain ⟨h1, f, hf, hm⟩ := k.on z h
      refine ⟨h1, f, ?_, hm⟩
      rw [k.keep hp h, List.getElem?_append_left (List.getElem?_eq_some_iff.mp hf).1]
      exact hf
    · have hm := (hnew z).mp h
      refine ⟨rch_plc pp hm.1, p, ?_, hm⟩
      unfold lt2
      rw [if_pos (muB_iff.mpr hm), List.getElem?_append_right (Nat.le_refl _), Nat.sub_self]
      rfl
  · by_cases ha : a < fs.length
    · rw [List.getElem?_append_left ha] at hf
      obtain ⟨h1, h2⟩ := k.cl a f hf z hm
      exact ⟨List.mem_append_left _ h1, by rw [k.keep hp h1, h2]⟩
    · rw [List.getElem?_append_right (by omega)] at hf
      have h0 : a - fs.length = 0 := by
        by_cases h : a - fs.length = 0
        · exact h
        · rw [List.getElem?_eq_none (by show 1 ≤ _; omega)] at hf
          cases hf
      rw [h0] at hf
      cases hf
      refine ⟨List.mem_append_right _ ((hnew z).mpr hm), ?_⟩
      unfold lt2
      rw [if_pos (muB_iff.mpr hm)]
      omega
theorem Kn.fs_nd {ks fs : List Str} {lt : Str → Nat} (k : Kn ws ks fs lt) : fs.Nodup := by
  rw [List.nodup_iff_pairwise_ne, List.pairwise_iff_getElem]
  intro a b ha hb hab e
  have h1 := (k.cl a _ (List.getElem?_eq_getElem ha) _ .rf).2
  have h2 := (k.cl b _ (List.getElem?_eq_getElem hb) _ .rf).2
  rw [e] at h1
  omega
theorem Kn.fs_len {ks fs : List Str} {lt : Str → Nat} (k : Kn ws ks fs lt) : fs.length ≤ ks.length :=
  nodup_len k.fs_nd fun f hf => by
    obtain ⟨a, ha, rfl⟩ := List.mem_iff_getElem.mp hf
    exact (k.cl a _ (List.getElem?_eq_getElem ha) _ .rf).1
theorem Kn.lt {ks fs : List Str} {lt : Str → Nat} (k : Kn ws ks fs lt) (all : ∀ p ∈ plcs ws, p ∈ ks) : Lt ws fs.length lt := by
  refine ⟨fun p hp => ?_, fun i hi => ?_, fun p hp q hq => ?_⟩
  · obtain ⟨_, f, hf, _⟩ := k.on p (all p hp)
    exact (List.getElem?_eq_some_iff.mp hf).1
  · have hf : fs[i]? = some fs[i] := List.getElem?_eq_getElem hi
    exact ⟨fs[i], k.pl _ (List.getElem_mem hi), (k.cl i _ hf _ .rf).2⟩
  · obtain ⟨_, f, hf, hm⟩ := k.on p (all p hp)
    obtain ⟨_, g, hg, hm2⟩ := k.on q (all q hq)
    constructor
    · intro e
      rw [← e, hf] at hg
      cases hg
      exact hm.sy.tr hm2
    · intro h
      exact ((k.cl _ f hf q (hm.tr h)).2).symm
theorem Kn.row {ks fs : List Str} {lt : Str → Nat} (k : Kn ws ks fs lt) (all : ∀ p ∈ plcs ws, p ∈ ks) {i : Nat} {f : Str} (hf : fs[i]? = some f) {rs : List Str} (mem : ∀ q, q ∈ rs ↔ Rch (nxts ws) f q) (j : Nat) : j ∈ rs.map lt ↔ lle ws lt i j := by
  have L := k.lt all
  have fp := k.pl f (List.mem_of_getElem? hf)
  have e : lt f = i := (k.cl i f hf f .rf).2
  rw [List.mem_map]
  constructor
  · rintro ⟨z, hz, rfl⟩
    have hz := (mem z).mp hz
    rw [← e, L.le fp (rch_plc fp hz)]
    exact hz
  · rintro ⟨p, q, hp, hq, h1, rfl, h2⟩
    refine ⟨q, (mem q).mpr ?_, rfl⟩
    have h3 := (L.eq p hp f fp).mp (by rw [h1, e])
    exact h3.2.trans h2
theorem fkv_congr {f g : Str → V} {ks : List Str} (h : ∀ z ∈ ks, f z = g z) : fkv f ks = fkv g ks := List.map_congr_left fun z hz => by rw [h z hz]
end
end My

/-! how many lots no way leaves -/
namespace My
open PySem PySem.Spec PyProof.Rows L2 Evl
theorem Hang.congr {ws us : List Str} (h : ∀ x, x ∈ ws ↔ x ∈ us) : Hang ws ↔ Hang us := by
  have one : ∀ {ws us : List Str}, (∀ x, x ∈ ws ↔ x ∈ us) → Hang ws → Hang us := fun {ws us} h hh p hp q hq => by
    have pl : ∀ {z : Str}, z ∈ plcs us → z ∈ plcs ws := fun {z} hz => by
      obtain ⟨x, hx, e⟩ := plcs_mem.mp hz
      exact plcs_mem.mpr ⟨x, (h x).mpr hx, e⟩
    exact rch_mono (fun x hx => (h x).mp hx) (hh p (pl hp) q (pl hq))
  exact ⟨one h, one fun x => (h x).symm⟩
/-- lots can be numbered -/
theorem ex_lot (ws : List Str) : ∃ m lot, Lt ws m lot := by
  refine ⟨(ded ((plcs ws).map (keyOf ws))).length, fun p => (ded ((plcs ws).map (keyOf ws))).idxOf (keyOf ws p), fun p hp => ?_, fun i hi => ?_, fun p hp q hq => ?_⟩
  · exact List.idxOf_lt_length_of_mem (ded_mem.mpr (List.mem_map.mpr ⟨p, hp, rfl⟩))
  · have hm := List.getElem_mem hi
    obtain ⟨p, hp, e⟩ := List.mem_map.mp (ded_mem.mp hm)
    refine ⟨p, hp, ?_⟩
    show List.idxOf (keyOf ws p) _ = i
    rw [e]
    exact (ded_nd _).idxOf_getElem i hi
  · constructor
    · intro e
      have kp : keyOf ws p ∈ ded ((plcs ws).map (keyOf ws)) := ded_mem.mpr (List.mem_map.mpr ⟨p, hp, rfl⟩)
      have kq : keyOf ws q ∈ ded ((plcs ws).map (keyOf ws)) := ded_mem.mpr (List.mem_map.mpr ⟨q, hq, rfl⟩)
      have e2 : keyOf ws p = keyOf ws q := by
        have h1 := List.getElem_idxOf (List.idxOf_lt_length_of_mem kp)
        have h2 := List.getElem_idxOf (List.idxOf_lt_length_of_mem kq)
        have e : List.idxOf (keyOf ws p) (ded ((plcs ws).map (keyOf ws))) = List.idxOf (keyOf ws q) (ded ((plcs ws).map (keyOf ws))) := e
        rw [← h1, ← h2]
        congr 1
      obtain ⟨a1, a2⟩ := key_mut hp
      obtain ⟨b1, b2⟩ := key_mut hq
      rw [e2] at a1 a2
      exact ⟨a1.trans b2, b1.trans a2⟩
    · rintro ⟨h1, h2⟩
      show List.idxOf (keyOf ws p) _ = List.idxOf (keyOf ws q) _
      rw [key_same hp h1 h2]
def Snk (ws : List Str) (p : Str) : Prop := ∀ q, Rch (nxts ws) p q → Rch (nxts ws) q p
noncomputable def snkB (ws : List Str) (p : Str) : Bool := @decide (Snk ws p) (Classical.propDecidable _)
theorem snkB_iff {ws : List Str} {p : Str} : snkB ws p = true ↔ Snk ws p := @decide_eq_true_iff _ (Classical.propDecidable _)
noncomputable def lastL (ws : List Str) : List Str := (places ws).filter (snkB ws)
noncomputable def keysL (ws : List Str) : List Str := ded ((lastL ws).map (keyOf ws))
noncomputable def endsL (ws : List Str) : Nat := if (lastL ws).length < (places ws).length ∨ 1 < (keysL ws).length then (keysL ws).length else 0
section
variable {ws : List Str} {m : Nat} {lot : Str → Nat}
theorem lastL_mem {p : Str} : p ∈ lastL ws ↔ p ∈ plcs ws ∧ Snk ws p := by
  unfold lastL
  rw [List.mem_filter, places_mem, snkB_iff]
theorem snk_top (L : Lt ws m lot) {p : Str} (hp : p ∈ plcs ws) : Snk ws p ↔ Mx m (lle ws lot) (lot p) := by
  constructor
  · intro h
    refine ⟨L.lt p hp, fun j hj => ?_⟩
    obtain ⟨a, b, ha, hb, e1, rfl, r⟩ := hj
    have h1 := (L.eq a ha p hp).mp e1
    have r2 := h1.2.trans r
    exact (L.eq b hb p hp).mpr ⟨h b r2, r2⟩
  · rintro ⟨_, h⟩ q hq
    have hqp := rch_plc hp hq
    have := h (lot q) ((L.le hp hqp).mpr hq)
    exact ((L.eq q hqp p hp).mp this).1
theorem key_plc {p : Str} (hp : p ∈ plcs ws) : keyOf ws p ∈ plcs ws := rch_plc hp (key_mut hp).1
theorem lot_key (L : Lt ws m lot) {p : Str} (hp : p ∈ plcs ws) : lot (keyOf ws p) = lot p := (L.eq _ (key_plc hp) p hp).mpr ⟨(key_mut hp).2, (key_mut hp).1⟩
theorem keysL_len (L : Lt ws m lot) : (keysL ws).length = (tops m (lle ws lot)).length := by
  have kin : ∀ k ∈ keysL ws, ∃ p, p ∈ plcs ws ∧ Snk ws p ∧ k = keyOf ws p := fun k hk => by
    obtain ⟨p, hp, e⟩ := List.mem_map.mp (ded_mem.mp hk)
    obtain ⟨h1, h2⟩ := lastL_mem.mp hp
    exact ⟨p, h1, h2, e.symm⟩
  refine Nat.le_antisymm ?_ ?_
  · have nd : ((keysL ws).map lot).Nodup := by
      refine List.pairwise_map.mpr ((ded_nd _).imp_of_mem fun {a b} ha hb hne e => hne ?_)
      obtain ⟨p, hp, _, rfl⟩ := kin a ha
      obtain ⟨q, hq, _, rfl⟩ := kin b hb
      rw [lot_key L hp, lot_key L hq] at e
      obtain ⟨h1, h2⟩ := (L.eq p hp q hq).mp e
      exact key_same hp h1 h2
    have := nodup_len nd (l := tops m (lle ws lot)) fun y hy => by
      obtain ⟨k, hk, rfl⟩ := List.mem_map.mp hy
      obtain ⟨p, hp, hs, rfl⟩ := kin k hk
      rw [lot_key L hp]
      exact tops_mem.mpr ((snk_top L hp).mp hs)
    rwa [List.length_map] at this
  · have := nodup_len (tops_nd m (lle ws lot)) (l := (keysL ws).map lot) fun i hi => by
      have hi := tops_mem.mp hi
      obtain ⟨p, hp, rfl⟩ := L.on i hi.1
      refine List.mem_map.mpr ⟨keyOf ws p, ded_mem.mpr (List.mem_map.mpr ⟨p, lastL_mem.mpr ⟨hp, (snk_top L hp).mpr hi⟩, rfl⟩), lot_key L hp⟩
    rwa [List.length_map] at this
theorem endsL_two (L : Lt ws m lot) (h2 : 2 ≤ m) : endsL ws = (tops m (lle ws lot)).length := by
  unfold endsL
  rw [← keysL_len L]
  by_cases hc : (lastL ws).length < (places ws).length ∨ 1 < (keysL ws).length
  · rw [if_pos hc]
  · exfalso
    have all : ∀ p ∈ places ws, snkB ws p = true := by
      have : (lastL ws).length = (places ws).length := Nat.le_antisymm (List.length_filter_le _ _) (by omega)
      exact List.length_filter_eq_length_iff.mp this
    have tl : (tops m (lle ws lot)).length ≤ 1 := by
      rw [← keysL_len L]
      omega
    have top : ∀ i, i < m → i ∈ tops m (lle ws lot) := fun i hi => by
      obtain ⟨p, hp, rfl⟩ := L.on i hi
      exact tops_mem.mpr ((snk_top L hp).mp (snkB_iff.mp (all p (places_mem.mpr hp))))
    have := nodup_len (ks := [0, 1]) (l := tops m (lle ws lot)) (by decide) fun i hi => by
      simp at hi
      rcases hi with rfl | rfl <;> exact top _ (by omega)
    have : [0, 1].length = 2 := rfl
    omega
theorem endsL_zero (h : Hang ws) : endsL ws = 0 := by
  obtain ⟨m, lot, L⟩ := ex_lot ws
  have hm := L.hang.mp h
  unfold endsL
  rw [if_neg]
  rintro (h1 | h1)
  · have : (lastL ws).length = (places ws).length := List.length_filter_eq_length_iff.mpr fun p hp => snkB_iff.mpr fun q hq => h q (rch_plc (places_mem.mp hp) hq) p (places_mem.mp hp)
    omega
  · rw [keysL_len L] at h1
    have := nodup_len (tops_nd m (lle ws lot)) (l := List.range m) fun i hi => List.mem_range.mpr (tops_mem.mp hi).1
    rw [List.length_range] at this
    omega
/-! ### read from behind -/
theorem Lt.rev (L : Lt ws m lot) : Lt (revs ws) m (fun p => lot (revS p)) := by
  have back : ∀ {p : Str}, p ∈ plcs (revs ws) ↔ revS p ∈ plcs ws := fun {p} => by
    have := plcs_revs (ws := ws) (p := revS p)
    rwa [rev_rev] at this
  have rr : ∀ {p q : Str}, Rch (nxts (revs ws)) p q ↔ Rch (nxts ws) (revS q) (revS p) := fun {p q} => by
    have := rch_revs (ws := ws) (a := revS p) (b := revS q)
    rwa [rev_rev, rev_rev] at this
  refine ⟨fun p hp => L.lt _ (back.mp hp), fun i hi => ?_, fun p hp q hq => ?_⟩
  · obtain ⟨p, hp, e⟩ := L.on i hi
    exact ⟨revS p, back.mpr (by rw [rev_rev]; exact hp), by show lot (revS (revS p)) = i; rw [rev_rev]; exact e⟩
  · rw [rr, rr]
    exact (L.eq _ (back.mp hp) _ (back.mp hq)).trans ⟨fun h => ⟨h.2, h.1⟩, fun h => ⟨h.2, h.1⟩⟩
theorem lle_rev : lle (revs ws) (fun p => lot (revS p)) = flip2 (lle ws lot) := by
  have back : ∀ {p : Str}, p ∈ plcs (revs ws) ↔ revS p ∈ plcs ws := fun {p} => by
    have := plcs_revs (ws := ws) (p := revS p)
    rwa [rev_rev] at this
  have rr : ∀ {p q : Str}, Rch (nxts (revs ws)) p q ↔ Rch (nxts ws) (revS q) (revS p) := fun {p q} => by
    have := rch_revs (ws := ws) (a := revS p) (b := revS q)
    rwa [rev_rev, rev_rev] at this
  funext i j
  refine propext ⟨?_, ?_⟩
  · rintro ⟨p, q, hp, hq, rfl, rfl, r⟩
    exact ⟨revS q, revS p, back.mp hq, back.mp hp, rfl, rfl, rr.mp r⟩
  · rintro ⟨p, q, hp, hq, rfl, rfl, r⟩
    exact ⟨revS q, revS p, back.mpr (by rw [rev_rev]; exact hq), back.mpr (by rw [rev_rev]; exact hp), by show lot (revS (revS q)) = _; rw [rev_rev], by show lot (revS (revS p)) = _; rw [rev_rev], rr.mpr (by rw [rev_rev, rev_rev]; exact r)⟩
theorem endsL_rev (L : Lt ws m lot) (h2 : 2 ≤ m) : endsL (revs ws) = (tops m (flip2 (lle ws lot))).length := by
  rw [endsL_two L.rev h2, lle_rev]
theorem hang_rev (h : Hang ws) : Hang (revs ws) := by
  obtain ⟨m, lot, L⟩ := ex_lot ws
  exact L.rev.hang.mpr (L.hang.mp h)
end
/-! ### what the law tells of a wide book -/
theorem wide_zero {ws : List Str} (h : Hang ws) : endsL ws = 0 ∧ endsL (revs ws) = 0 ∧ fewN ws = some 0 := ⟨endsL_zero h, endsL_zero (hang_rev h), by
  unfold fewN
  rw [if_pos h]⟩
theorem wide_many {ws : List Str} {n : Nat} (W : Wl ws n (letsOf ws)) (h : 2 < endsL ws ∨ 2 < endsL (revs ws)) : fewN ws = none := by
  obtain ⟨m, lot, L⟩ := ex_lot ws
  have h2 : 2 ≤ m := by
    by_cases hm : 2 ≤ m
    · exact hm
    · obtain ⟨a, b, _⟩ := wide_zero (L.hang.mpr (by omega))
      omega
  rw [endsL_two L h2, endsL_rev L h2] at h
  exact (told_few W L h2 (r := none) ⟨fun _ => rfl, fun a b _ => by omega, fun no => absurd h no⟩).symm
theorem wide_two {ws : List Str} (W : Wl ws 2 (letsOf ws)) (nh : ¬ Hang ws) (h : ¬ (2 < endsL ws ∨ 2 < endsL (revs ws))) : fewN ws = some (max (endsL ws) (endsL (revs ws))) := by
  obtain ⟨m, lot, L⟩ := ex_lot ws
  have h2 : 2 ≤ m := by
    by_cases hm : 2 ≤ m
    · exact hm
    · exact absurd (L.hang.mpr (by omega)) nh
  rw [endsL_two L h2, endsL_rev L h2] at h ⊢
  exact few_two W L h2 rfl (by omega) (by omega)
theorem wide_pos {ws : List Str} (nh : ¬ Hang ws) (ne : ws ≠ []) : 1 ≤ endsL ws ∧ 1 ≤ endsL (revs ws) := by
  obtain ⟨m, lot, L⟩ := ex_lot ws
  have h2 : 2 ≤ m := by
    by_cases hm : 2 ≤ m
    · exact hm
    · exact absurd (L.hang.mpr (by omega)) nh
  rw [endsL_two L h2, endsL_rev L h2]
  exact ⟨tops_pos L.po (by omega), tops_pos L.po.flip (by omega)⟩
/-- where one window does it, it begins at the only end -/
theorem one_last {ws : List Str} {n : Nat} (W : Wl ws n (letsOf ws)) (nh : ¬ Hang ws) (h : One ws) : max (endsL ws) (endsL (revs ws)) = 1 ∧ ∃ x, Fur ws (lastL ws) (letsOf ws) x ∧ Hang (ws ++ [x]) := by
  obtain ⟨m, lot, L⟩ := ex_lot ws
  have h2 : 2 ≤ m := by
    by_cases hm : 2 ≤ m
    · exact hm
    · exact absurd (L.hang.mpr (by omega)) nh
  obtain ⟨e, s, u1, u2, a⟩ := (single W L h2).mp h
  have h0 : 0 < m := by omega
  refine ⟨?_, ?_⟩
  · rw [endsL_two L h2, endsL_rev L h2, (uniq_iff L.po h0).mp u1, (uniq_iff L.po.flip h0).mp u2]
    rfl
  · obtain ⟨x, ⟨p, hp, c, hc, ex, xn⟩, hb, he, h1, h3⟩ := arc_win W a
    refine ⟨x, ⟨p, ?_, c, hc, ex, xn⟩, (join1 L hb he).mpr ?_⟩
    · have bp : begS x = p := by rw [ex, beg_put]
      rw [bp] at h1
      refine lastL_mem.mpr ⟨hp, (snk_top L hp).mpr ?_⟩
      rw [h1]
      exact tops_mem.mp (by rw [(uniq_iff L.po h0).mp u1]; exact List.mem_singleton.mpr rfl)
    · rw [h1, h3]
      exact sg_one L.po u1 u2
theorem last_one {ws : List Str} {x : Str} (h : Fur ws (lastL ws) (letsOf ws) x) (hh : Hang (ws ++ [x])) : One ws := by
  obtain ⟨p, hp, c, hc, ex, xn⟩ := h
  exact ⟨x, ⟨p, (lastL_mem.mp hp).1, c, hc, ex, xn⟩, hh⟩
/-! ### none of what joins may go -/
theorem second_one {ws : List Str} {x y : Str} (h1 : Fur ws (plcs ws) (letsOf ws) x) (h2 : Fur (ws ++ [x]) (plcs ws ++ [endS x]) (letsOf ws) y) (ne : ws ≠ []) (hh : Hang (ws ++ [y])) : One ws := by
  obtain ⟨p, hp, c, hc, ey, yn⟩ := h2
  have yw : y ∉ ws := fun h => yn (List.mem_append_left _ h)
  have by_ : begS y = p := by rw [ey, beg_put]
  by_cases hpp : p ∈ plcs ws
  · exact ⟨y, ⟨p, hpp, c, hc, ey, yw⟩, hh⟩
  · exfalso
    obtain ⟨x0, hx0⟩ := List.exists_mem_of_ne_nil _ ne
    have r := hh (begS x0) (beg_mem (List.mem_append_left _ hx0)) (begS y) (beg_mem (List.mem_append_right _ (List.mem_singleton.mpr rfl)))
    have gen : ∀ {z : Str}, Rch (nxts (ws ++ [y])) (begS x0) z → z ∈ plcs ws := fun {z} r => by
      induction r with
      | refl => exact beg_mem hx0
      | step _ h2 ih =>
        obtain ⟨w, hw, e1, e2⟩ := nxts_mem.mp h2
        rcases List.mem_append.mp hw with hw | hw
        · exact e2 ▸ end_mem hw
        · rw [List.mem_singleton.mp hw, by_] at e1
          exact absurd (e1 ▸ ih) hpp
    exact hpp (by_ ▸ gen r)
end My

/-! what the law tries -/
namespace My
open PySem PySem.Spec PyProof.Rows L2 Evl
def furL (V S lts : List Str) : List Str := S.flatMap fun p => (lts.map fun l => p ++ l).filter fun x => !decide (x ∈ V)
def LtsOf (ws lts : List Str) : Prop := ∀ l, l ∈ lts ↔ ∃ c ∈ letsOf ws, l = one1 c
def letL (ws : List Str) : List Str := sortS (ded ((letsOf ws).map one1))
theorem letL_of (ws : List Str) : LtsOf ws (letL ws) := fun l => by
  unfold letL
  rw [sortS_mem, ded_mem, List.mem_map]
  exact ⟨fun ⟨c, hc, e⟩ => ⟨c, hc, e.symm⟩, fun ⟨c, hc, e⟩ => ⟨c, hc, e.symm⟩⟩
theorem furL_mem {V S lts ws : List Str} {x : Str} (h : LtsOf ws lts) : x ∈ furL V S lts ↔ Fur V S (letsOf ws) x := by
  unfold furL Fur
  simp only [List.mem_flatMap, List.mem_filter, List.mem_map]
  constructor
  · rintro ⟨p, hp, ⟨l, hl, rfl⟩, hn⟩
    obtain ⟨c, hc, rfl⟩ := (h l).mp hl
    exact ⟨p, hp, c, hc, rfl, by simpa using hn⟩
  · rintro ⟨p, hp, c, hc, rfl, hn⟩
    exact ⟨p, hp, ⟨one1 c, (h _).mpr ⟨c, hc, rfl⟩, rfl⟩, by simpa using hn⟩
theorem furL_snoc (V S lts : List Str) (p : Str) : furL V (S ++ [p]) lts = furL V S lts ++ (lts.map fun l => p ++ l).filter fun x => !decide (x ∈ V) := by
  unfold furL
  rw [List.flatMap_append]
  simp
theorem furL_len (V S lts : List Str) : (furL V S lts).length ≤ S.length * lts.length := by
  unfold furL
  induction S with
  | nil => exact Nat.zero_le _
  | cons p S ih =>
    rw [List.flatMap_cons, List.length_append]
    have h1 := List.length_filter_le (fun x => !decide (x ∈ V)) (lts.map fun l => p ++ l)
    rw [List.length_map] at h1
    rw [List.length_cons, Nat.add_mul, Nat.one_mul]
    omega
theorem join_letters (ws : List Str) : sg (Txt.join ("" : Str) ws) = letsOf ws := by
  have e : ws = (ws.map sg).map tx := by
    rw [List.map_map]
    exact (List.map_id'' (f := tx ∘ sg) (fun x => tx_sg x) ws).symm
  conv => lhs; rw [e]
  rw [join_tx, sg_tx]
  unfold letsOf
  rw [List.flatMap_def]
section
variable {ws : List Str} {n : Nat} {x y : Str}
theorem let_word (B : Bk n ws) {c : Nat} (h : c ∈ letsOf ws) : 97 ≤ c ∧ c ≤ 122 := by
  obtain ⟨x, hx, hc⟩ := letsOf_mem.mp h
  exact (B.win.1 x hx).1 c hc
theorem plc_word (B : Bk n ws) {p : Str} (h : p ∈ plcs ws) : Word p ∧ p.length + 1 = n := by
  obtain ⟨h1, h2⟩ := plcs_word B.win.1 h
  have := B.lo
  exact ⟨h1, by omega⟩
theorem fur_word {V S : List Str} (B : Bk n ws) (hS : ∀ p ∈ S, Word p ∧ p.length + 1 = n) (h : Fur V S (letsOf ws) x) : Word x ∧ x.length = n := by
  obtain ⟨p, hp, c, hc, rfl, _⟩ := h
  obtain ⟨h1, h2⟩ := hS p hp
  refine ⟨fun a ha => ?_, ?_⟩
  · rw [sg_app] at ha
    rcases List.mem_append.mp ha with ha | ha
    · exact h1 a ha
    · rw [List.mem_singleton.mp ha]
      exact let_word B hc
  · rw [strLen_app]
    exact h2
theorem fur_first (B : Bk n ws) (h : Fur ws (plcs ws) (letsOf ws) x) : Word x ∧ x.length = n := fur_word B (fun p hp => plc_word B hp) h
theorem snd_plc (B : Bk n ws) (h : Fur ws (plcs ws) (letsOf ws) x) : ∀ p ∈ plcs ws ++ [endS x], Word p ∧ p.length + 1 = n := fun p hp => by
  obtain ⟨h1, h2⟩ := fur_first B h
  rcases List.mem_append.mp hp with hp | hp
  · exact plc_word B hp
  · rw [List.mem_singleton.mp hp]
    refine ⟨word_end h1, ?_⟩
    rw [len_end]
    have := B.lo
    omega
theorem fur_second (B : Bk n ws) (h : Fur ws (plcs ws) (letsOf ws) x) (h2 : Fur (ws ++ [x]) (plcs ws ++ [endS x]) (letsOf ws) y) : Word y ∧ y.length = n := fur_word B (snd_plc B h) h2
theorem fur_new {V S : List Str} {ls : List Nat} (h : Fur V S ls x) : x ∉ V := by
  obtain ⟨_, _, _, _, _, h⟩ := h
  exact h
end
/-- what the law finds -/
inductive JoinR (ws : List Str) : Option (List Str) → Prop
  | none : ¬ Hang ws → ¬ One ws → ¬ Two2 ws → JoinR ws none
  | zero : Hang ws → JoinR ws (some [])
  | one {x : Str} : ¬ Hang ws → Fur ws (plcs ws) (letsOf ws) x → Hang (ws ++ [x]) → JoinR ws (some [x])
  | two {x y : Str} : ¬ Hang ws → ¬ One ws → Fur ws (plcs ws) (letsOf ws) x → Fur (ws ++ [x]) (plcs ws ++ [endS x]) (letsOf ws) y → Hang (ws ++ [x, y]) → JoinR ws (some (sortS [x, y]))
theorem JoinR.few {ws : List Str} {o : Option (List Str)} (h : JoinR ws o) : fewN ws = o.map (·.length) := by
  unfold fewN
  cases h with
  | none a b c => rw [if_neg a, if_neg b, if_neg c]; rfl
  | zero a => rw [if_pos a]; rfl
  | one a b c => rw [if_neg a, if_pos ⟨_, b, c⟩]; rfl
  | two a b c d e =>
    rw [if_neg a, if_neg b, if_pos ⟨_, _, c, d, e⟩]
    show _ = some (sortS _).length
    rw [sortS_len]
    rfl
def optD : Option (List Str) → PyData
  | none => .none
  | some l => strsT l
/-- whole behind the joining, and none of them may go -/
theorem JoinR.whole {ws l : List Str} {n : Nat} (B : Bk n ws) (h : JoinR ws (some l)) : Win n l ∧ (∀ x ∈ l, x ∉ ws) ∧ l.length ≤ 2 ∧ Hang (sortS (ws ++ l)) ∧ ∀ x ∈ l, ¬ Sc (minus (sortS (ws ++ l)) [x]) := by
  have nocase : ∀ {us vs : List Str}, (∀ z, z ∈ us ↔ z ∈ vs) → ¬ Hang vs → ¬ Sc us := fun {us vs} e h s => h ((Hang.congr e).mp s.2)
  cases h with
  | zero hh => exact ⟨⟨fun x h => (List.not_mem_nil h).elim, List.Pairwise.nil⟩, fun x h => (List.not_mem_nil h).elim, Nat.zero_le _, (Hang.congr fun z => by rw [sortS_mem, List.append_nil]).mpr hh, fun x h => (List.not_mem_nil h).elim⟩
  | @one x nh f hh =>
    have xn := fur_new f
    refine ⟨⟨fun z hz => ?_, List.pairwise_singleton ..⟩, fun z hz => ?_, by show 1 ≤ 2; omega, (Hang.congr fun z => sortS_mem).mpr hh, fun z hz => ?_⟩
    · rw [List.mem_singleton.mp hz]
      exact fur_first B f
    · rw [List.mem_singleton.mp hz]
      exact xn
    · rw [List.mem_singleton.mp hz]
      refine nocase (fun y => ?_) nh
      rw [minus_mem, sortS_mem, List.mem_append, List.mem_singleton]
      constructor
      · rintro ⟨h1 | h1, h2⟩
        · exact h1
        · exact absurd h1 h2
      · intro h
        exact ⟨.inl h, fun e => xn (e ▸ h)⟩
  | @two x y nh no f g hh =>
    have xn := fur_new f
    have yn : y ∉ ws := fun h => fur_new g (List.mem_append_left _ h)
    have yx : y ≠ x := fun h => fur_new g (List.mem_append_right _ (List.mem_singleton.mpr h))
    have nd : [x, y].Nodup := List.nodup_cons.mpr ⟨fun h => yx (List.mem_singleton.mp h).symm, nodup_one y⟩
    have two : ∀ {z : Str}, z ∈ sortS [x, y] ↔ z = x ∨ z = y := fun {z} => by
      rw [sortS_mem]
      simp
    refine ⟨⟨fun z hz => ?_, sortS_asc nd⟩, fun z hz => ?_, by rw [sortS_len]; show 2 ≤ 2; omega, (Hang.congr fun z => ?_).mpr hh, fun z hz => ?_⟩
    · rcases two.mp hz with rfl | rfl
      · exact fur_first B f
      · exact fur_second B f g
    · rcases two.mp hz with rfl | rfl
      · exact xn
      · exact yn
    · rw [sortS_mem, List.mem_append, List.mem_append, two]
      simp
    · rcases two.mp hz with rfl | rfl
      · refine nocase (vs := ws ++ [y]) (fun u => ?_) fun h => no (second_one f g B.ne h)
        rw [minus_mem, sortS_mem, List.mem_append, List.mem_append, two, List.mem_singleton, List.mem_singleton]
        constructor
        · rintro ⟨h1 | h1 | h1, h2⟩
          · exact .inl h1
          · exact absurd h1 h2
          · exact .inr h1
        · rintro (h | h)
          · exact ⟨.inl h, fun e => xn (e ▸ h)⟩
          · exact ⟨.inr (.inr h), fun e => yx (h.symm.trans e)⟩
      · refine nocase (vs := ws ++ [x]) (fun u => ?_) fun h => no ⟨x, f, h⟩
        rw [minus_mem, sortS_mem, List.mem_append, List.mem_append, two, List.mem_singleton, List.mem_singleton]
        constructor
        · rintro ⟨h1 | h1 | h1, h2⟩
          · exact .inl h1
          · exact .inr h1
          · exact absurd h1 h2
        · rintro (h | h)
          · exact ⟨.inl h, fun e => yn (e ▸ h)⟩
          · exact ⟨.inr (.inl h), fun e => yx (e.symm.trans h)⟩
end My

/-! min of a dict of texts -/
namespace My
open PySem PySem.Spec PyProof.Rows L2 Evl
theorem strs_ltC {prog : Program} {w : World} {A : Around} {P : Nat → Value → Prop} (val : Nat → Str) (hval : ∀ i v, P i v → ∃ t, v = .str (val i) t) :
    CmpOf prog w A .Lt P (fun i j => decide (sg (val i) < sg (val j))) := fun i j vi vj s Q E hi hj h => by
  obtain ⟨t, rfl⟩ := hval i vi hi
  obtain ⟨u, rfl⟩ := hval j vj hj
  exact richCompare_gives (op := .Lt) (typeIs_str s _ t) (typeIs_str s _ u) F.slot_str_lt F.entry_str_lt (F.args_str_lt_2 _ _) (gives_str_lt _ _ t u) (fun x => nomatch x) h
theorem argBest_strs (val : Nat → Str) : ∀ k, argBest (fun i j => decide (sg (val i) < sg (val j))) k ≤ k ∧ ∀ j, j ≤ k → ¬ sg (val j) < sg (val (argBest (fun i j => decide (sg (val i) < sg (val j))) k))
  | 0 => ⟨Nat.le_refl _, fun j hj => by
    have : j = 0 := by omega
    subst this
    exact List.lt_irrefl _⟩
  | k + 1 => by
    obtain ⟨h1, h2⟩ := argBest_strs val k
    simp only [argBest]
    by_cases hc : sg (val (k + 1)) < sg (val (argBest (fun i j => decide (sg (val i) < sg (val j))) k))
    · rw [if_pos (by simpa using hc)]
      refine ⟨Nat.le_refl _, fun j hj => ?_⟩
      rcases Nat.lt_or_ge j (k + 1) with hlt | hge
      · exact fun z => h2 j (by omega) (List.lt_trans z hc)
      · have : j = k + 1 := by omega
        subst this
        exact List.lt_irrefl _
    · rw [if_neg (by simpa using hc)]
      refine ⟨by omega, fun j hj => ?_⟩
      rcases Nat.lt_or_ge j (k + 1) with hlt | hge
      · exact h2 j (by omega)
      · have : j = k + 1 := by omega
        subst this
        exact hc
section
variable {X : Cx}
def rMinDS : List V → Hp → VK → Prop := fun vs H Q => ∃ (a : Addr) (kvs : List (Key × V)) (is : List Str), vs = [V.ref a] ∧ H a = some (.dK kvs) ∧ kvs.map (·.1) = is.map Sum.inr ∧ is ≠ [] ∧ ∀ m, m ∈ is → (∀ j ∈ is, ¬ sg j < sg m) → Q (.str m) H
theorem cr_minDS (hc : X.calm = true) : CallR X (.builtin "min") rMinDS := by
  intro pins s σ H vs us Q I r h
  obtain ⟨a, kvs, is, rfl, ha, hv, hne, q⟩ := h
  rw [Vals.ref1 r]
  obtain ⟨_, hsys, vs, rel, dof⟩ := dk_of I.hok ha
  obtain ⟨ep, dat⟩ := dof.dictAt
  obtain ⟨ob, es, ho, hex, hdat, hko, hpr, hnd⟩ := id dat
  have hlt : a < s.heap.objs.size := Heap.lt_size ho
  have hkeys : vs.map (·.1) = is.map Sum.inr := (KV.keys rel).symm.trans hv
  have hlv : vs.length = is.length := by
    have e1 := congrArg List.length hkeys
    rw [List.length_map, List.length_map] at e1
    exact e1
  have hlen : 0 < vs.length := by
    rw [hlv]
    exact List.length_pos_iff.mpr hne
  have hval : ∀ (i : Nat) (v : Value), (∃ k x, vs[i]? = some (k, x) ∧ (mixKind X.prog X.w).is k v = true) → ∃ t, v = Value.str (is.getD i (tx [])) t := fun i v ⟨k, x, hk, hkey⟩ => by
    have e1 : (vs.map (·.1))[i]? = some k := by rw [List.getElem?_map, hk] <;> rfl
    rw [hkeys, List.getElem?_map] at e1
    obtain ⟨j, hj, e2⟩ := Option.map_eq_some_iff.mp e1
    subst e2
    obtain ⟨t, e3⟩ := Value.isStrOf_shape (x := j) (v := v) hkey
    refine ⟨t, ?_⟩
    rw [e3, List.getD_eq_getElem?_getD, hj] <;> rfl
  refine call_min_walk (wpAny_pyIter_dict (knd := mixKind X.prog X.w) hsys dat ?_)
  refine ⟨_, _, _, _, _, _, _, rfl, Walks.dictKeys (knd := mixKind X.prog X.w) (A := X.A.in1) (I.ok.hd hc) s.heap.objs.size a (Nat.ne_of_lt hlt) vs ep,
    ⟨⟨_, Heap.get?_push_size _ rfl, rfl, rfl⟩, dat.keep fun b u e => Heap.get?_push_of_some _ e⟩, fun b hb => ?_, hlen, strs_ltC (fun i => is.getD i (tx [])) hval, fun v h' tk hP hk => ?_⟩
  · show b < (s.heap.push _).objs.size
    rw [Heap.size_push]
    rcases List.mem_cons.mp hb with e | hb
    · rw [e]
      exact Nat.lt_succ_self _
    · rw [List.mem_singleton.mp hb]
      exact Nat.lt_succ_of_lt hlt
  · obtain ⟨t, rfl⟩ := hval _ v hP
    obtain ⟨b1, b2⟩ := argBest_strs (fun i => is.getD i (tx [])) (vs.length - 1)
    refine ⟨.str _, H, I.kept (t' := tk) fun b u e => hk b u (fun hmem => ?_) (Heap.get?_push_of_some _ e), ⟨t, rfl⟩, q _ ?_ fun j hj => ?_⟩
    · have e1 : b = s.heap.objs.size := List.mem_singleton.mp hmem
      have e2 := Heap.lt_size e
      rw [e1] at e2
      exact absurd e2 (Nat.lt_irrefl _)
    · have hb : argBest (fun i j => decide (sg (is.getD i (tx [])) < sg (is.getD j (tx [])))) (vs.length - 1) < is.length := by omega
      rw [List.getD_eq_getElem?_getD, List.getElem?_eq_getElem hb]
      exact List.getElem_mem hb
    · obtain ⟨i, hi, e⟩ := List.mem_iff_getElem.mp hj
      have e2 : is.getD i (tx []) = j := by rw [List.getD_eq_getElem?_getD, List.getElem?_eq_getElem hi, ← e] <;> rfl
      rw [← e2]
      exact b2 i (by omega)
end
end My

namespace My
open PySem PySem.Spec PyProof.Rows L2 Evl
def topS (i : Nat) : Stmt := PySem.Challenge.pw_surepieces_k65_whole_windows_that_join.main.body.getD i (.Pass ⟨0, 0, 0, 0⟩)
abbrev s_is_integer : Stmt := topS 9
abbrev n_is_integer : List Str := ["value"]
theorem sc_is_integer : FnScope n_is_integer ["value"] (defScope s_is_integer) := ⟨rfl, rfl, rfl, by decide +kernel, rfl, by decide +kernel, by decide +kernel⟩
abbrev s_anew : Stmt := topS 10
abbrev n_anew : List Str := ["value", "part"]
theorem sc_anew : FnScope n_anew ["value"] (defScope s_anew) := ⟨rfl, rfl, rfl, by decide +kernel, rfl, by decide +kernel, by decide +kernel⟩
abbrev s_are_ascending : Stmt := topS 11
abbrev n_are_ascending : List Str := ["values", "at"]
theorem sc_are_ascending : FnScope n_are_ascending ["values"] (defScope s_are_ascending) := ⟨rfl, rfl, rfl, by decide +kernel, rfl, by decide +kernel, by decide +kernel⟩
abbrev s_is_word : Stmt := topS 12
abbrev n_is_word : List Str := ["value", "sign"]
theorem sc_is_word : FnScope n_is_word ["value"] (defScope s_is_word) := ⟨rfl, rfl, rfl, by decide +kernel, rfl, by decide +kernel, by decide +kernel⟩
abbrev s_is_size : Stmt := topS 13
abbrev n_is_size : List Str := ["value"]
theorem sc_is_size : FnScope n_is_size ["value"] (defScope s_is_size) := ⟨rfl, rfl, rfl, by decide +kernel, rfl, by decide +kernel, by decide +kernel⟩
abbrev s_are_windows : Stmt := topS 14
abbrev n_are_windows : List Str := ["size", "value", "window"]
theorem sc_are_windows : FnScope n_are_windows ["size", "value"] (defScope s_are_windows) := ⟨rfl, rfl, rfl, by decide +kernel, rfl, by decide +kernel, by decide +kernel⟩
abbrev s_is_a_book : Stmt := topS 15
abbrev n_is_a_book : List Str := ["value"]
theorem sc_is_a_book : FnScope n_is_a_book ["value"] (defScope s_is_a_book) := ⟨rfl, rfl, rfl, by decide +kernel, rfl, by decide +kernel, by decide +kernel⟩
abbrev s_places_of : Stmt := topS 16
abbrev n_places_of : List Str := ["book", "found", "window"]
theorem sc_places_of : FnScope n_places_of ["book"] (defScope s_places_of) := ⟨rfl, rfl, rfl, by decide +kernel, rfl, by decide +kernel, by decide +kernel⟩
abbrev s_need_book : Stmt := topS 17
abbrev n_need_book : List Str := ["book"]
theorem sc_need_book : FnScope n_need_book ["book"] (defScope s_need_book) := ⟨rfl, rfl, rfl, by decide +kernel, rfl, by decide +kernel, by decide +kernel⟩
abbrev s_begin_of : Stmt := topS 19
abbrev n_begin_of : List Str := ["window"]
theorem sc_begin_of : FnScope n_begin_of ["window"] (defScope s_begin_of) := ⟨rfl, rfl, rfl, by decide +kernel, rfl, by decide +kernel, by decide +kernel⟩
abbrev s_end_of : Stmt := topS 20
abbrev n_end_of : List Str := ["window"]
theorem sc_end_of : FnScope n_end_of ["window"] (defScope s_end_of) := ⟨rfl, rfl, rfl, by decide +kernel, rfl, by decide +kernel, by decide +kernel⟩
abbrev s_windows_out : Stmt := topS 21
abbrev n_windows_out : List Str := ["book", "found", "window", "spot", "row"]
theorem sc_windows_out : FnScope n_windows_out ["book"] (defScope s_windows_out) := ⟨rfl, rfl, rfl, by decide +kernel, rfl, by decide +kernel, by decide +kernel⟩
abbrev s_places_from : Stmt := topS 23
abbrev n_places_from : List Str := ["book", "spot", "ways_out", "found", "waiting", "window"]
theorem sc_places_from : FnScope n_places_from ["book", "spot"] (defScope s_places_from) := ⟨rfl, rfl, rfl, by decide +kernel, rfl, by decide +kernel, by decide +kernel⟩
abbrev s_a_closed_lot : Stmt := topS 24
abbrev n_a_closed_lot : List Str := ["book", "every", "spot", "found"]
theorem sc_a_closed_lot : FnScope n_a_closed_lot ["book"] (defScope s_a_closed_lot) := ⟨rfl, rfl, rfl, by decide +kernel, rfl, by decide +kernel, by decide +kernel⟩
abbrev s_knots_of : Stmt := topS 26
abbrev n_knots_of : List Str := ["book", "spot", "from_each", "lot_of", "firsts", "other", "first"]
theorem sc_knots_of : FnScope n_knots_of ["book"] (defScope s_knots_of) := ⟨rfl, rfl, rfl, by decide +kernel, rfl, by decide +kernel, by decide +kernel⟩
abbrev s_turned_about : Stmt := topS 27
abbrev n_turned_about : List Str := ["onward", "every", "lot", "other"]
theorem sc_turned_about : FnScope n_turned_about ["onward"] (defScope s_turned_about) := ⟨rfl, rfl, rfl, by decide +kernel, rfl, by decide +kernel, by decide +kernel⟩
abbrev s_come_to : Stmt := topS 28
abbrev n_come_to : List Str := ["onward", "arcs", "found", "turn", "one", "other", "lot"]
theorem sc_come_to : FnScope n_come_to ["onward", "arcs"] (defScope s_come_to) := ⟨rfl, rfl, rfl, by decide +kernel, rfl, by decide +kernel, by decide +kernel⟩
abbrev s_hangs_by : Stmt := topS 29
abbrev n_hangs_by : List Str := ["onward", "back", "arcs", "turned", "one", "other"]
theorem sc_hangs_by : FnScope n_hangs_by ["onward", "back", "arcs"] (defScope s_hangs_by) := ⟨rfl, rfl, rfl, by decide +kernel, rfl, by decide +kernel, by decide +kernel⟩
abbrev s_arcs_of : Stmt := topS 30
abbrev n_arcs_of : List Str := ["book", "lot_of", "found", "one", "other"]
theorem sc_arcs_of : FnScope n_arcs_of ["book", "lot_of"] (defScope s_arcs_of) := ⟨rfl, rfl, rfl, by decide +kernel, rfl, by decide +kernel, by decide +kernel⟩
abbrev s_long_arcs_of : Stmt := topS 31
abbrev n_long_arcs_of : List Str := ["book", "lot_of", "found", "one", "other", "is_way"]
theorem sc_long_arcs_of : FnScope n_long_arcs_of ["book", "lot_of"] (defScope s_long_arcs_of) := ⟨rfl, rfl, rfl, by decide +kernel, rfl, by decide +kernel, by decide +kernel⟩
abbrev s_first_and_second : Stmt := topS 32
abbrev n_first_and_second : List Str := ["arcs", "ends", "starts", "arc"]
theorem sc_first_and_second : FnScope n_first_and_second ["arcs", "ends", "starts"] (defScope s_first_and_second) := ⟨rfl, rfl, rfl, by decide +kernel, rfl, by decide +kernel, by decide +kernel⟩
abbrev s_fewest_joins : Stmt := topS 33
abbrev n_fewest_joins : List Str := ["book", "lot_of", "onward", "back", "ends", "starts", "arcs", "is_one", "first", "second", "one", "other", "lot"]
theorem sc_fewest_joins : FnScope n_fewest_joins ["book"] (defScope s_fewest_joins) := ⟨rfl, rfl, rfl, by decide +kernel, rfl, by decide +kernel, by decide +kernel⟩
abbrev s_need_some_ring : Stmt := topS 35
abbrev n_need_some_ring : List Str := ["book"]
theorem sc_need_some_ring : FnScope n_need_some_ring ["book"] (defScope s_need_some_ring) := ⟨rfl, rfl, rfl, by decide +kernel, rfl, by decide +kernel, by decide +kernel⟩
abbrev s_book_without : Stmt := topS 36
abbrev n_book_without : List Str := ["book", "windows", "window"]
theorem sc_book_without : FnScope n_book_without ["book", "windows"] (defScope s_book_without) := ⟨rfl, rfl, rfl, by decide +kernel, rfl, by decide +kernel, by decide +kernel⟩
abbrev s_can_go : Stmt := topS 37
abbrev n_can_go : List Str := ["book", "windows", "left"]
theorem sc_can_go : FnScope n_can_go ["book", "windows"] (defScope s_can_go) := ⟨rfl, rfl, rfl, by decide +kernel, rfl, by decide +kernel, by decide +kernel⟩
abbrev s_needed : Stmt := topS 38
abbrev n_needed : List Str := ["book", "window"]
theorem sc_needed : FnScope n_needed ["book"] (defScope s_needed) := ⟨rfl, rfl, rfl, by decide +kernel, rfl, by decide +kernel, by decide +kernel⟩
abbrev s_may_go : Stmt := topS 39
abbrev n_may_go : List Str := ["book", "windows", "window"]
theorem sc_may_go : FnScope n_may_go ["book", "windows"] (defScope s_may_go) := ⟨rfl, rfl, rfl, by decide +kernel, rfl, by decide +kernel, by decide +kernel⟩
abbrev s_joined : Stmt := topS 40
abbrev n_joined : List Str := ["book", "more", "window"]
theorem sc_joined : FnScope n_joined ["book", "more"] (defScope s_joined) := ⟨rfl, rfl, rfl, by decide +kernel, rfl, by decide +kernel, by decide +kernel⟩
abbrev s_least_join : Stmt := topS 41
abbrev n_least_join : List Str := ["book"]
theorem sc_least_join : FnScope n_least_join ["book"] (defScope s_least_join) := ⟨rfl, rfl, rfl, by decide +kernel, rfl, by decide +kernel, by decide +kernel⟩
abbrev s_law_well : Stmt := topS 43
abbrev n_law_well : List Str := ["script", "k", "total", "at", "cell", "great"]
theorem sc_law_well : FnScope n_law_well ["script", "k"] (defScope s_law_well) := ⟨rfl, rfl, rfl, by decide +kernel, rfl, by decide +kernel, by decide +kernel⟩
abbrev s_law_pick : Stmt := topS 44
abbrev n_law_pick : List Str := ["well", "ways", "found", "mixed"]
theorem sc_law_pick : FnScope n_law_pick ["well", "ways"] (defScope s_law_pick) := ⟨rfl, rfl, rfl, by decide +kernel, rfl, by decide +kernel, by decide +kernel⟩
abbrev s_law_one_of : Stmt := topS 45
abbrev n_law_one_of : List Str := ["well", "things"]
theorem sc_law_one_of : FnScope n_law_one_of ["well", "things"] (defScope s_law_one_of) := ⟨rfl, rfl, rfl, by decide +kernel, rfl, by decide +kernel, by decide +kernel⟩
abbrev s_law_round : Stmt := topS 46
abbrev n_law_round : List Str := ["size", "ring", "longer", "at"]
theorem sc_law_round : FnScope n_law_round ["size", "ring"] (defScope s_law_round) := ⟨rfl, rfl, rfl, by decide +kernel, rfl, by decide +kernel, by decide +kernel⟩
abbrev s_law_tally : Stmt := topS 47
abbrev n_law_tally : List Str := ["steps", "found", "step"]
theorem sc_law_tally : FnScope n_law_tally ["steps"] (defScope s_law_tally) := ⟨rfl, rfl, rfl, by decide +kernel, rfl, by decide +kernel, by decide +kernel⟩
abbrev s_law_ways_out : Stmt := topS 48
abbrev n_law_ways_out : List Str := ["windows", "found", "window", "spot", "row"]
theorem sc_law_ways_out : FnScope n_law_ways_out ["windows"] (defScope s_law_ways_out) := ⟨rfl, rfl, rfl, by decide +kernel, rfl, by decide +kernel, by decide +kernel⟩
abbrev s_law_come_to : Stmt := topS 49
abbrev n_law_come_to : List Str := ["ways", "start", "found", "left", "spot"]
theorem sc_law_come_to : FnScope n_law_come_to ["ways", "start"] (defScope s_law_come_to) := ⟨rfl, rfl, rfl, by decide +kernel, rfl, by decide +kernel, by decide +kernel⟩
abbrev s_law_hangs : Stmt := topS 50
abbrev n_law_hangs : List Str := ["windows", "ways", "back", "start", "window"]
theorem sc_law_hangs : FnScope n_law_hangs ["windows"] (defScope s_law_hangs) := ⟨rfl, rfl, rfl, by decide +kernel, rfl, by decide +kernel, by decide +kernel⟩
abbrev s_law_without : Stmt := topS 51
abbrev n_law_without : List Str := ["windows", "lot", "window"]
theorem sc_law_without : FnScope n_law_without ["windows", "lot"] (defScope s_law_without) := ⟨rfl, rfl, rfl, by decide +kernel, rfl, by decide +kernel, by decide +kernel⟩
abbrev s_law_read_from : Stmt := topS 52
abbrev n_law_read_from : List Str := ["well", "ring", "letters", "at"]
theorem sc_law_read_from : FnScope n_law_read_from ["well", "ring", "letters"] (defScope s_law_read_from) := ⟨rfl, rfl, rfl, by decide +kernel, rfl, by decide +kernel, by decide +kernel⟩
abbrev s_law_parted_book : Stmt := topS 53
abbrev n_law_parted_book : List Str := ["well", "most", "size", "steps", "rings", "letters", "ring", "further", "turn", "ends", "text", "windows", "letter", "at"]
theorem sc_law_parted_book : FnScope n_law_parted_book ["well", "most"] (defScope s_law_parted_book) := ⟨rfl, rfl, rfl, by decide +kernel, rfl, by decide +kernel, by decide +kernel⟩
abbrev s_law_torn_book : Stmt := topS 54
abbrev n_law_torn_book : List Str := ["well", "size", "letters", "ring", "steps", "left", "letter"]
theorem sc_law_torn_book : FnScope n_law_torn_book ["well"] (defScope s_law_torn_book) := ⟨rfl, rfl, rfl, by decide +kernel, rfl, by decide +kernel, by decide +kernel⟩
abbrev s_law_further : Stmt := topS 55
abbrev n_law_further : List Str := ["windows", "spots", "letters", "found", "spot", "letter"]
theorem sc_law_further : FnScope n_law_further ["windows", "spots", "letters"] (defScope s_law_further) := ⟨rfl, rfl, rfl, by decide +kernel, rfl, by decide +kernel, by decide +kernel⟩
abbrev s_law_joins : Stmt := topS 56
abbrev n_law_joins : List Str := ["book", "windows", "spots", "letters", "firsts", "one", "other"]
theorem sc_law_joins : FnScope n_law_joins ["book"] (defScope s_law_joins) := ⟨rfl, rfl, rfl, by decide +kernel, rfl, by decide +kernel, by decide +kernel⟩
abbrev s_law_ends : Stmt := topS 57
abbrev n_law_ends : List Str := ["windows", "ways", "come_to_v", "spot", "last", "firsts", "other"]
theorem sc_law_ends : FnScope n_law_ends ["windows"] (defScope s_law_ends) := ⟨rfl, rfl, rfl, by decide +kernel, rfl, by decide +kernel, by decide +kernel⟩
abbrev s_law_few_right : Stmt := topS 58
abbrev n_law_few_right : List Str := ["book", "ends", "told", "windows", "spots", "letters", "firsts", "one"]
theorem sc_law_few_right : FnScope n_law_few_right ["book", "ends", "told"] (defScope s_law_few_right) := ⟨rfl, rfl, rfl, by decide +kernel, rfl, by decide +kernel, by decide +kernel⟩
abbrev s_law_joined_right : Stmt := topS 59
abbrev n_law_joined_right : List Str := ["well", "book", "size", "found", "letters", "turn", "more", "due", "at", "first", "second", "told", "letter"]
theorem sc_law_joined_right : FnScope n_law_joined_right ["well", "book"] (defScope s_law_joined_right) := ⟨rfl, rfl, rfl, by decide +kernel, rfl, by decide +kernel, by decide +kernel⟩
abbrev s_law_torn_right : Stmt := topS 60
abbrev n_law_torn_right : List Str := ["well", "book", "joins", "due", "whole", "alone", "window"]
theorem sc_law_torn_right : FnScope n_law_torn_right ["well"] (defScope s_law_torn_right) := ⟨rfl, rfl, rfl, by decide +kernel, rfl, by decide +kernel, by decide +kernel⟩
abbrev s_law_wide_right : Stmt := topS 61
abbrev n_law_wide_right : List Str := ["well", "book", "pairs", "ends", "told", "window"]
theorem sc_law_wide_right : FnScope n_law_wide_right ["well"] (defScope s_law_wide_right) := ⟨rfl, rfl, rfl, by decide +kernel, rfl, by decide +kernel, by decide +kernel⟩
abbrev s_law : Stmt := topS 62
abbrev n_law : List Str := ["script", "k", "well"]
theorem sc_law : FnScope n_law ["script"] (defScope s_law) := ⟨rfl, rfl, rfl, by decide +kernel, rfl, by decide +kernel, by decide +kernel⟩
/-- what the top has left -/
structure Tx (K : PySem.W.Frag) (mg : Str → Option Value) : Prop where
  d_is_integer : DefAt K mg "is_integer" s_is_integer ["value"]
  d_anew : DefAt K mg "anew" s_anew ["value"]
  d_are_ascending : DefAt K mg "are_ascending" s_are_ascending ["values"]
  d_is_word : DefAt K mg "is_word" s_is_word ["value"]
  d_is_size : DefAt K mg "is_size" s_is_size ["value"]
  d_are_windows : DefAt K mg "are_windows" s_are_windows ["size", "value"]
  d_is_a_book : DefAt K mg "is_a_book" s_is_a_book ["value"]
  d_places_of : DefAt K mg "places_of" s_places_of ["book"]
  d_need_book : DefAt K mg "need_book" s_need_book ["book"]
  d_begin_of : DefAt K mg "begin_of" s_begin_of ["window"]
  d_end_of : DefAt K mg "end_of" s_end_of ["window"]
  d_windows_out : DefAt K mg "windows_out" s_windows_out ["book"]
  d_places_from : DefAt K mg "places_from" s_places_from ["book", "spot"]
  d_a_closed_lot : DefAt K mg "a_closed_lot" s_a_closed_lot ["book"]
  d_knots_of : DefAt K mg "knots_of" s_knots_of ["book"]
  d_turned_about : DefAt K mg "turned_about" s_turned_about ["onward"]
  d_come_to : DefAt K mg "come_to" s_come_to ["onward", "arcs"]
  d_hangs_by : DefAt K mg "hangs_by" s_hangs_by ["onward", "back", "arcs"]
  d_arcs_of : DefAt K mg "arcs_of" s_arcs_of ["book", "lot_of"]
  d_long_arcs_of : DefAt K mg "long_arcs_of" s_long_arcs_of ["book", "lot_of"]
  d_first_and_second : DefAt K mg "first_and_second" s_first_and_second ["arcs", "ends", "starts"]
  d_fewest_joins : DefAt K mg "fewest_joins" s_fewest_joins ["book"]
  d_need_some_ring : DefAt K mg "need_some_ring" s_need_some_ring ["book"]
  d_book_without : DefAt K mg "book_without" s_book_without ["book", "windows"]
  d_can_go : DefAt K mg "can_go" s_can_go ["book", "windows"]
  d_needed : DefAt K mg "needed" s_needed ["book"]
  d_may_go : DefAt K mg "may_go" s_may_go ["book", "windows"]
  d_joined : DefAt K mg "joined" s_joined ["book", "more"]
  d_least_join : DefAt K mg "least_join" s_least_join ["book"]
  d_law_well : DefAt K mg "_law_well" s_law_well ["script", "k"]
  d_law_pick : DefAt K mg "_law_pick" s_law_pick ["well", "ways"]
  d_law_one_of : DefAt K mg "_law_one_of" s_law_one_of ["well", "things"]
  d_law_round : DefAt K mg "_law_round" s_law_round ["size", "ring"]
  d_law_tally : DefAt K mg "_law_tally" s_law_tally ["steps"]
  d_law_ways_out : DefAt K mg "_law_ways_out" s_law_ways_out ["windows"]
  d_law_come_to : DefAt K mg "_law_come_to" s_law_come_to ["ways", "start"]
  d_law_hangs : DefAt K mg "_law_hangs" s_law_hangs ["windows"]
  d_law_without : DefAt K mg "_law_without" s_law_without ["windows", "lot"]
  d_law_read_from : DefAt K mg "_law_read_from" s_law_read_from ["well", "ring", "letters"]
  d_law_parted_book : DefAt K mg "_law_parted_book" s_law_parted_book ["well", "most"]
  d_law_torn_book : DefAt K mg "_law_torn_book" s_law_torn_book ["well"]
  d_law_further : DefAt K mg "_law_further" s_law_further ["windows", "spots", "letters"]
  d_law_joins : DefAt K mg "_law_joins" s_law_joins ["book"]
  d_law_ends : DefAt K mg "_law_ends" s_law_ends ["windows"]
  d_law_few_right : DefAt K mg "_law_few_right" s_law_few_right ["book", "ends", "told"]
  d_law_joined_right : DefAt K mg "_law_joined_right" s_law_joined_right ["well", "book"]
  d_law_torn_right : DefAt K mg "_law_torn_right" s_law_torn_right ["well"]
  d_law_wide_right : DefAt K mg "_law_wide_right" s_law_wide_right ["well"]
  d_law : DefAt K mg "law" s_law ["script"]
  k_least_join_book : KbAt K mg "least_join" ["book"] ["book"] [0]
  k_joined_more_book : KbAt K mg "joined" ["book", "more"] ["more", "book"] [1, 0]
  b_range : mg "range" = none
  b_len : mg "len" = none
  b_max : mg "max" = none
  b_min : mg "min" = none
  b_abs : mg "abs" = none
  b_int : mg "int" = none
  b_sorted : mg "sorted" = none
  b_tuple : mg "tuple" = none
  b_list : mg "list" = none
  b_all : mg "all" = none
  b_any : mg "any" = none
  b_isinstance : mg "isinstance" = none
  b_enumerate : mg "enumerate" = none
  b_repr : mg "repr" = none
  b_str : mg "str" = none
  b_dict : mg "dict" = none
  b_bool : mg "bool" = none
  g_LETTERS : ∃ t, mg "LETTERS" = some (.str "abcdefghijklmnopqrstuvwxyz" t)
  g_LEAST_SIZE : ∃ t, mg "LEAST_SIZE" = some (.int (2) t)
  g_MOST_SIZE : ∃ t, mg "MOST_SIZE" = some (.int (6) t)
/-! ### values: numbers, words, windows, books -/
local macro_rules | `(tactic| walk_at "sq") => `(tactic| first | assumption | (refine ex_t ?_ ?_ <;> assumption) | (refine ex_l ?_ ?_ <;> assumption))
local macro_rules | `(tactic| walk_at "go") => `(tactic| repeat (first
  | refine ⟨_, rfl, ?_⟩
  | refine ⟨_, _, rfl, rfl, ?_⟩
  | refine ⟨_, _, rfl, .inr (by walk_at "sq"), ?_⟩
  | refine ⟨_, _, rfl, .inl (by walk_at "sq"), ?_⟩))
section
variable {P : Program} {w : World} {K : PySem.W.Frag} {mg : Str → Option Value} {base : Heap}
def sp_is_integer : Sp := fun vs H Q _ => ∃ i, vs = [.int i] ∧ Q (.bl true) H
theorem ok_is_integer (T : Tx K mg) : Ok P w K mg base CX0 1 "is_integer" ["value"] sp_is_integer := by
  refine T.d_is_integer.ok sc_is_integer (fun vs H Q E h => ?_) (fun f cdv A outer s H vs Q E hG hr h => ?_)
  · obtain ⟨i, rfl, _⟩ := h
    rfl
  · obtain ⟨i, rfl, q⟩ := h
    refine ⟨_, (pss_one (ps_ret (pe_and (pe_callB (call_isiK2 (K := K)) (by rfl) T.b_isinstance (by decide +kernel) (pa_cons (pv 0) (pa_cons (pe_gty (T := "int") T.b_int (by decide +kernel)) pa_nil))) (pe_one (pe_not (pe_callB (call_isiK2 (K := K)) (by rfl) T.b_isinstance (by decide +kernel) (pa_cons (pv 0) (pa_cons (pe_gty (T := "bool") T.b_bool (by decide +kernel)) pa_nil)))))))), ?_⟩
    refine ⟨_, rfl, _, _, _, _, true, rfl, .ty _, .base (.int i), kit_ty (by decide +kernel), true, rfl, ?_⟩
    exact ⟨_, rfl, _, _, _, _, false, rfl, .ty _, .base (.int i), kit_ty (by decide +kernel), false, rfl, q⟩
def sp_are_ascending (K : PySem.W.Frag) : Sp := fun vs H Q _ => ∃ a ws, vs = [.ref a] ∧ SqT K H a (ws.map V.str) ∧ Asc ws ∧ ws.length ≤ 1000 ∧ RetD K (.bool true) H Q
theorem ok_are_ascending (T : Tx K mg) : Ok P w K mg base CX0 1 "are_ascending" ["values"] (sp_are_ascending K) := by
  refine T.d_are_ascending.ok sc_are_ascending (fun vs H Q E h => ?_) (fun f cdv A outer s H vs Q E hG hr h => ?_)
  · obtain ⟨a, ws, rfl, _⟩ := h
    rfl
  · obtain ⟨a, ws, rfl, hS, hA, hl, q⟩ := h
    refine ⟨_, (pss_one (ps_ret (pe_callB (cr_allK (K := K) rfl) (by rfl) T.b_all (by decide +kernel) (pa_cons (pe_lc (own := [("at", 1)]) (g := gName 1) (tt := tYes) rfl sc_are_ascending.nd (pi_range1 (by rfl) T.b_range (pa_cons (pe_op op_sub (pe_callB (call_lenK (K := K)) (by rfl) T.b_len PySem.boot_len (pa_cons (pv 0) pa_nil)) pe_int) pa_nil)) (blkOk_by (own := [("at", 1)]) (N := n_are_ascending) (sc := defScope s_are_ascending) (by decide +kernel)) (fun _ _ _ _ _ => pg_name (i := 1) sc_are_ascending.nd rfl (Or.inl rfl)) (fun _ _ _ _ _ => pts_nil) (fun _ _ _ _ _ => (pe_cmpR op_lt_str (pe_ix (ix_tupK (K := K)) (pv 0) (pv 1) (fun _ _ => rfl)) (pe_ix (ix_tupK (K := K)) (pv 0) (pe_op op_add (pv 1) pe_int) (fun _ _ => rfl)) (nomark _)))) pa_nil)))), ?_⟩
    have hlen : (ws.map V.str).length = ws.length := List.length_map ..
    walk_at "go"
    refine ⟨by omega, by omega, fun D np => ?_⟩
    refine lc_rng K (fun _ => true) (fun _ => .bool true) np (by omega) (fun _ _ => rfl) (fun i x H2 Y Z hi e it hy _ => ?_) (fun H' acc e hp hd => ?_)
    · subst it
      have h1 : i < ws.length := by omega
      have h2 : i + 1 < ws.length := by omega
      refine ⟨rfl, lc_yes ?_⟩
      refine ⟨_, rfl, _, rfl, _, _, _, _, rfl, rfl, ex_t e hS, atI_of (j := i) (by omega) (get_map h1), ?_⟩
      refine ⟨_, rfl, _, rfl, _, _, rfl, rfl, _, _, _, _, rfl, rfl, ex_t e hS, atI_of (j := i + 1) (by omega) (get_map h2), ?_⟩
      refine ⟨_, _, rfl, rfl, hy rfl _ _ (Ex.refl _) ?_⟩
      have hlt : sg ws[i] < sg ws[i + 1] := List.pairwise_iff_getElem.mp hA i (i + 1) h1 h2 (by omega)
      rw [show decide (ws[i].cps.toList < ws[i + 1].cps.toList) = true from decide_eq_true hlt]
      exact .bl true
    · rw [givenD_all] at hd
      have hb : acc = ((List.range ((ws.map V.str).length - 1 : Int).toNat).map fun _ => true).map V.bl := bls_dpa (by rw [List.map_map]; exact hd)
      subst hb
      refine ⟨_, _, rfl, SqL.of hp, q _ _ e ?_⟩
      rw [show (((List.range ((ws.map V.str).length - 1 : Int).toNat).map fun _ => true).all id) = true from List.all_eq_true.mpr fun b hb => by
        obtain ⟨_, _, rfl⟩ := List.mem_map.mp hb
        rfl]
      exact .bl true
end
section
variable {P : Program} {w : World} {K : PySem.W.Frag} {mg : Str → Option Value} {base : Heap}
/-- whether a text is of small letters -/
def wordB (x : Str) : Bool := (sg x).all fun c => decide (97 ≤ c ∧ c ≤ 122)
theorem wordB_of {x : Str} (h : Word x) : wordB x = true := List.all_eq_true.mpr fun c hc => decide_eq_true (h c hc)
theorem wordB_word {x : Str} (h : wordB x = true) : Word x := fun c hc => of_decide_eq_true (List.all_eq_true.mp h c hc)
def sp_is_word (K : PySem.W.Frag) : Sp := fun vs H Q _ => ∃ x, vs = [.str x] ∧ x.length ≤ 100000 ∧ RetD K (.bool (wordB x)) H Q
theorem ok_is_word (T : Tx K mg) : Ok P w K mg base CX0 1 "is_word" ["value"] (sp_is_word K) := by
  refine T.d_is_word.ok sc_is_word (fun vs H Q E h => ?_) (fun f cdv A outer s H vs Q E hG hr h => ?_)
  · obtain ⟨x, rfl, _⟩ := h
    rfl
  · obtain ⟨x, rfl, hl, q⟩ := h
    refine ⟨_, (pss_one (ps_ret (pe_and (pe_callB (call_isiK2 (K := K)) (by rfl) T.b_isinstance (by decide +kernel) (pa_cons (pv 0) (pa_cons (pe_gty (T := "str") T.b_str (by decide +kernel)) pa_nil))) (pe_one (pe_callB (cr_allK (K := K) rfl) (by rfl) T.b_all (by decide +kernel) (pa_cons (pe_lc (own := [("sign", 1)]) (g := gName 1) (tt := tYes) rfl sc_is_word.nd (pi_str (pv 0)) (blkOk_by (own := [("sign", 1)]) (N := n_is_word) (sc := defScope s_is_word) (by decide +kernel)) (fun _ _ _ _ _ => pg_name (i := 1) sc_is_word.nd rfl (Or.inl rfl)) (fun _ _ _ _ _ => pts_nil) (fun _ _ _ _ _ => (pe_cmpR op_in_sign (pv 1) (pe_gstr T.g_LETTERS) (by rfl)))) pa_nil)))))), ?_⟩
    have hc : x.cps.size = x.length := rfl
    refine ⟨_, rfl, _, _, _, _, true, rfl, .ty _, .base (.str x), kit_ty (by decide +kernel), true, rfl, iteT ?_⟩
    refine ⟨_, rfl, x, rfl, fun D np => ?_⟩
    refine lc_st K (fun _ => true) (fun i => .bool (decide (97 ≤ (sg x).getD i 0 ∧ (sg x).getD i 0 ≤ 122))) np (by omega) (fun _ _ => rfl) (fun i v H2 Y Z hi e it hy _ => ?_) (fun H' acc e hp hd => ?_)
    · obtain ⟨c, hc, rfl⟩ := it
      have hg : (sg x).getD i 0 = c := by
        unfold sg
        rw [List.getD_eq_getElem?_getD, Array.getElem?_toList, hc]
        rfl
      refine ⟨rfl, lc_yes ?_⟩
      refine ⟨_, rfl, c, _, rfl, rfl, hy rfl _ _ (Ex.refl _) ?_⟩
      have e1 : decide (c ∈ (("abcdefghijklmnopqrstuvwxyz" : String) : Str).cps.toList) = decide (97 ≤ c ∧ c ≤ 122) := word_in c
      show Dp K H2 (.bl (decide (c ∈ (("abcdefghijklmnopqrstuvwxyz" : String) : Str).cps.toList))) (.bool (decide (97 ≤ (sg x).getD i 0 ∧ (sg x).getD i 0 ≤ 122)))
      rw [e1, hg]
      exact .bl _
    · rw [givenD_all] at hd
      have hb : acc = ((List.range x.cps.size).map fun i => decide (97 ≤ (sg x).getD i 0 ∧ (sg x).getD i 0 ≤ 122)).map V.bl := bls_dpa (by rw [List.map_map]; exact hd)
      subst hb
      refine ⟨_, _, rfl, SqL.of hp, q _ _ e ?_⟩
      have eq : ((List.range x.cps.size).map fun i => decide (97 ≤ (sg x).getD i 0 ∧ (sg x).getD i 0 ≤ 122)).all id = wordB x := by
        have : (List.range x.cps.size).map (fun i => decide (97 ≤ (sg x).getD i 0 ∧ (sg x).getD i 0 ≤ 122)) = (sg x).map fun c => decide (97 ≤ c ∧ c ≤ 122) := by
          apply List.ext_getElem
          · simp [sg]
          · intro i h1 h2
            simp only [List.getElem_map, List.getElem_range]
            have hi : i < (sg x).length := by simpa using h2
            rw [List.getD_eq_getElem?_getD, List.getElem?_eq_getElem hi]
            rfl
        rw [this, List.all_map]
        rfl
      rw [eq]
      exact .bl _
def sp_is_size : Sp := fun vs H Q _ => ∃ n : Int, vs = [.int n] ∧ 2 ≤ n ∧ n ≤ 6 ∧ Q (.bl true) H
theorem ok_is_size (T : Tx K mg) : Ok P w K mg base CX0 2 "is_size" ["value"] sp_is_size := by
  refine T.d_is_size.ok sc_is_size (fun vs H Q E h => ?_) (fun f cdv A outer s H vs Q E hG hr h => ?_)
  · obtain ⟨n, rfl, _⟩ := h
    rfl
  · obtain ⟨n, rfl, h1, h2, q⟩ := h
    refine ⟨_, (pss_one (ps_ret (pe_and (pe_callO (ok_is_integer T) hG (hr.mono (by decide)) (pa_cons (pv 0) pa_nil)) (pe_one (pe_chain op_le op_le (pe_gint T.g_LEAST_SIZE) (pv 0) (pe_gint T.g_MOST_SIZE)))))), ?_⟩
    refine ⟨_, rfl, n, rfl, true, rfl, iteT ?_⟩
    refine ⟨_, rfl, 2, n, rfl, rfl, _, rfl, ?_⟩
    rw [decide_eq_true h1]
    refine iteT ⟨_, _, rfl, rfl, ?_⟩
    show Q (.bl (decide (n ≤ 6))) H
    rw [decide_eq_true h2]
    exact q
def sp_are_windows (K : PySem.W.Frag) : Sp := fun vs H Q _ => ∃ (n : Nat) (a : Addr) (ws : List Str), vs = [.int n, .ref a] ∧ SqT K H a (ws.map V.str) ∧ Win n ws ∧ n ≤ 6 ∧ ws.length ≤ 1000 ∧ RetD K (.bool true) H Q
theorem ok_are_windows (T : Tx K mg) : Ok P w K mg base CX0 2 "are_windows" ["size", "value"] (sp_are_windows K) := by
  refine T.d_are_windows.ok sc_are_windows (fun vs H Q E h => ?_) (fun f cdv A outer s H vs Q E hG hr h => ?_)
  · obtain ⟨n, a, ws, rfl, _⟩ := h
    rfl
  · obtain ⟨n, a, ws, rfl, hS, ⟨hW, hA⟩, h6, hl, q⟩ := h
    refine ⟨_, (pss_cons (ps_if (PW.pt (pw_or (pt_not (pt_val (pe_callB (call_isiK2 (K := K)) (by rfl) T.b_isinstance (by decide +kernel) (pa_cons (pv 1) (pa_cons (pe_gty (T := "tuple") T.b_tuple (by decide +kernel)) pa_nil))))) (pw_or1 (pt_not (pt_val (pe_callB (cr_allK (K := K) rfl) (by rfl) T.b_all (by decide +kernel) (pa_cons (pe_lc (own := [("window", 2)]) (g := gName 2) (tt := tYes) rfl sc_are_windows.nd (pi_tupK (K := K) (pv 1)) (blkOk_by (own := [("window", 2)]) (N := n_are_windows) (sc := defScope s_are_windows) (by decide +kernel)) (fun _ _ _ _ _ => pg_name (i := 2) sc_are_windows.nd rfl (Or.inl rfl)) (fun _ _ _ _ _ => pts_nil) (fun _ _ _ _ _ => (pe_and (pe_callO (ok_is_word T) hG (hr.mono (by decide)) (pa_cons (pv 2) pa_nil)) (pe_one (pe_cmpR op_eq (pe_callB call_len_str (by rfl) T.b_len PySem.boot_len (pa_cons (pv 2) pa_nil)) (pv 0) (nomark _)))))) pa_nil))))))) (pss_one (ps_ret pe_bl)) pss_nil) (pss_one (ps_ret (pe_callO (ok_are_ascending T) hG (hr.mono (by decide)) (pa_cons (pv 1) pa_nil))))), ?_⟩
    have hlen : (ws.map V.str).length = ws.length := List.length_map ..
    refine ⟨_, rfl, _, _, _, _, true, rfl, .ty _, tyT hS, kit_ty (by decide +kernel), true, rfl, ?_⟩
    refine iteF ?_
    refine ⟨_, rfl, a, rfl, ⟨_, hS⟩, fun D np => ?_⟩
    refine lc_tp hS (fun _ => true) (fun _ => .bool true) np (by omega) (fun _ _ => rfl) (fun i x H2 Y Z hi e it hy _ => ?_) (fun H' acc e hp hd => ?_)
    · obtain ⟨z, hz, rfl⟩ := str_at it
      obtain ⟨w1, w2⟩ := hW z (List.mem_of_getElem? hz)
      refine ⟨rfl, lc_yes ?_⟩
      refine ⟨_, rfl, z, rfl, by omega, fun v H3 e3 hv => ?_⟩
      obtain rfl := dp_bl hv
      refine ⟨_, rfl, ?_⟩
      rw [wordB_of w1]
      refine iteT ⟨_, rfl, z, rfl, sz_of (by omega), _, rfl, rfl, hy rfl _ _ e3 ?_⟩
      rw [w2]
      rw [decide_eq_true rfl]
      exact .bl _
    · rw [givenD_all] at hd
      have hb : acc = ((List.range (ws.map V.str).length).map fun _ => true).map V.bl := bls_dpa (by rw [List.map_map]; exact hd)
      subst hb
      refine ⟨_, _, rfl, SqL.of hp, _, rfl, ?_⟩
      rw [show (((List.range (ws.map V.str).length).map fun _ => true).all id) = true from List.all_eq_true.mpr fun b hb => by
        obtain ⟨_, _, rfl⟩ := List.mem_map.mp hb
        rfl]
      refine iteF ?_
      exact ⟨_, rfl, a, ws, rfl, ex_t e hS, hA, hl, fun v H3 e3 hv => q v H3 (e.trans e3) hv⟩
def sp_is_a_book (K : PySem.W.Frag) : Sp := fun vs H Q _ => ∃ (v : V) (n : Nat) (ws : List Str), vs = [v] ∧ Dp K H v (bookD n ws) ∧ Bk n ws ∧ RetD K (.bool true) H Q
theorem ok_is_a_book (T : Tx K mg) : Ok P w K mg base CX0 3 "is_a_book" ["value"] (sp_is_a_book K) := by
  refine T.d_is_a_book.ok sc_is_a_book (fun vs H Q E h => ?_) (fun f cdv A outer s H vs Q E hG hr h => ?_)
  · obtain ⟨v, n, ws, rfl, _⟩ := h
    rfl
  · obtain ⟨v, n, ws, rfl, hB, B, q⟩ := h
    obtain ⟨a, t, rfl, h1, h2⟩ := dp_book hB
    refine ⟨_, (pss_cons (ps_if (PW.pt (pw_or (pt_not (pt_val (pe_callB (call_isiK2 (K := K)) (by rfl) T.b_isinstance (by decide +kernel) (pa_cons (pv 0) (pa_cons (pe_gty (T := "tuple") T.b_tuple (by decide +kernel)) pa_nil))))) (pw_or (pt_cmpR op_ne (pe_callB (call_lenK (K := K)) (by rfl) T.b_len PySem.boot_len (pa_cons (pv 0) pa_nil)) pe_int (nomark _)) (pw_or1 (pt_not (pt_val (pe_callO (ok_is_size T) hG (hr.mono (by decide)) (pa_cons (pe_ix (ix_tupK (K := K)) (pv 0) pe_int (fun _ _ => rfl)) pa_nil)))))))) (pss_one (ps_ret pe_bl)) pss_nil) (pss_one (ps_ret (pe_and (pe_callO (ok_are_windows T) hG (hr.mono (by decide)) (pa_cons (pe_ix (ix_tupK (K := K)) (pv 0) pe_int (fun _ _ => rfl)) (pa_cons (pe_ix (ix_tupK (K := K)) (pv 0) pe_int (fun _ _ => rfl)) pa_nil))) (pe_one (pe_cmpR op_gt (pe_callB (call_lenK (K := K)) (by rfl) T.b_len PySem.boot_len (pa_cons (pe_ix (ix_tupK (K := K)) (pv 0) pe_int (fun _ _ => rfl)) pa_nil)) pe_int (nomark _))))))), ?_⟩
    have few := B.few
    have lo := B.lo
    have hi := B.hi
    refine ⟨_, rfl, _, _, _, _, true, rfl, .ty _, tyT h1, kit_ty (by decide +kernel), true, rfl, iteF ?_⟩
    refine ⟨_, rfl, _, _, rfl, .inr h1, rfl, _, rfl, iteF ?_⟩
    refine ⟨_, rfl, _, _, _, _, rfl, rfl, h1, atI_of (j := 0) rfl rfl, _, rfl, by omega, by omega, true, rfl, iteF ?_⟩
    refine ⟨_, rfl, _, _, _, _, rfl, rfl, h1, atI_of (j := 0) rfl rfl, _, rfl, _, _, _, _, rfl, rfl, h1, atI_of (j := 1) rfl rfl, n, t, ws, rfl, h2, B.win, hi, by omega, fun v H3 e3 hv => ?_⟩
    obtain rfl := dp_bl hv
    refine ⟨true, rfl, iteT ?_⟩
    refine ⟨_, rfl, _, _, _, _, rfl, rfl, ex_t e3 h1, atI_of (j := 1) rfl rfl, _, _, rfl, .inr (ex_t e3 h2), _, _, rfl, rfl, q _ _ e3 ?_⟩
    have hp : 0 < ws.length := List.length_pos_iff.mpr B.ne
    show Dp K H3 (.bl (decide ((0 : Int) < (ws.map V.str).length))) _
    rw [decide_eq_true (show (0 : Int) < (ws.map V.str).length by rw [List.length_map]; omega)]
    exact .bl true
def sp_need_book (K : PySem.W.Frag) : Sp := fun vs H Q _ => ∃ (v : V) (n : Nat) (ws : List Str), vs = [v] ∧ Dp K H v (bookD n ws) ∧ Bk n ws ∧ ∀ H', Ex H H' → Q .non H'
theorem ok_need_book (T : Tx K mg) : Ok P w K mg base CX0 4 "need_book" ["book"] (sp_need_book K) := by
  refine T.d_need_book.ok sc_need_book (fun vs H Q E h => ?_) (fun f cdv A outer s H vs Q E hG hr h => ?_)
  · obtain ⟨v, n, ws, rfl, _⟩ := h
    rfl
  · obtain ⟨v, n, ws, rfl, hB, B, q⟩ := h
    refine ⟨_, (pss_one (ps_if (pt_not (pt_val (pe_callO (ok_is_a_book T) hG (hr.mono (by decide)) (pa_cons (pv 0) pa_nil)))) (pss_one ps_never) pss_nil)), ?_⟩
    refine ⟨_, rfl, v, n, ws, rfl, hB, B, fun u H3 e3 hv => ?_⟩
    obtain rfl := dp_bl hv
    exact ⟨true, rfl, iteF (q _ e3)⟩
def sp_begin_of : Sp := fun vs H Q _ => ∃ x, vs = [.str x] ∧ x.length ≤ 1000000 ∧ Q (.str (begS x)) H
theorem ok_begin_of (T : Tx K mg) : Ok P w K mg base CX0 1 "begin_of" ["window"] sp_begin_of := by
  refine T.d_begin_of.ok sc_begin_of (fun vs H Q E h => ?_) (fun f cdv A outer s H vs Q E hG hr h => ?_)
  · obtain ⟨x, rfl, _⟩ := h
    rfl
  · obtain ⟨x, rfl, hl, q⟩ := h
    refine ⟨_, (pss_one (ps_ret (pe_slice sl_str (pv 0) po_none (po_some (pe_un un_neg pe_int))))), ?_⟩
    refine ⟨_, rfl, 1, rfl, _, rfl, x, rfl, sz_of hl, ?_⟩
    rw [show cutS x none (some (-1)) = begS x from cut_beg x]
    exact q
def sp_end_of : Sp := fun vs H Q _ => ∃ x, vs = [.str x] ∧ x.length ≤ 1000000 ∧ Q (.str (endS x)) H
theorem ok_end_of (T : Tx K mg) : Ok P w K mg base CX0 1 "end_of" ["window"] sp_end_of := by
  refine T.d_end_of.ok sc_end_of (fun vs H Q E h => ?_) (fun f cdv A outer s H vs Q E hG hr h => ?_)
  · obtain ⟨x, rfl, _⟩ := h
    rfl
  · obtain ⟨x, rfl, hl, q⟩ := h
    refine ⟨_, (pss_one (ps_ret (pe_slice sl_str (pv 0) (po_some pe_int) po_none))), ?_⟩
    refine ⟨_, rfl, 1, rfl, x, rfl, sz_of hl, ?_⟩
    rw [cut_end]
    exact q
end

/-! ### webs: places, windows by the place where they begin, what is come to -/
section
variable {P : Program} {w : World} {K : PySem.W.Frag} {mg : Str → Option Value} {base : Heap}
def sp_places_of (K : PySem.W.Frag) : Sp := fun vs H Q _ => ∃ (v : V) (n : Nat) (ws : List Str), vs = [v] ∧ Dp K H v (bookD n ws) ∧ (∀ x ∈ ws, x.length ≤ 100) ∧ ws.length ≤ 1000 ∧ RetD K (strsL (places ws)) H Q
theorem ok_places_of (T : Tx K mg) : Ok P w K mg base CX0 1 "places_of" ["book"] (sp_places_of K) := by
  refine T.d_places_of.ok sc_places_of (fun vs H Q E h => ?_) (fun f cdv A outer s H vs Q E hG hr h => ?_)
  · obtain ⟨v, n, ws, rfl, _⟩ := h
    rfl
  · obtain ⟨v, n, ws, rfl, hB, hx, hl, q⟩ := h
    obtain ⟨a, t, rfl, h1, h2⟩ := dp_book hB
    refine ⟨_, (pss_cons (ps_set (i := 1) sc_places_of.nd rfl (Or.inl rfl) pe_dnewK) (pss_cons (ps_for PassesOwn.never rfl (pi_tupK (K := K) (pe_ix (ix_tupK (K := K)) (pv 0) pe_int (fun _ _ => rfl))) (pg_name (i := 2) sc_places_of.nd rfl (Or.inl rfl)) (pss_cons (ps_dput (hu_of hr) (pv 1) (pe_slice sl_str (pv 2) po_none (po_some (pe_un un_neg pe_int))) pe_bl rfl) (pss_one (ps_dput (hu_of hr) (pv 1) (pe_slice sl_str (pv 2) (po_some pe_int) po_none) pe_bl rfl)))) (pss_one (ps_ret (pe_callB (cr_sortDct (K := K) rfl hr.units) (by rfl) T.b_sorted (by decide +kernel) (pa_cons (pv 1) pa_nil)))))), ?_⟩
    have lmap : (ws.map V.str).length = ws.length := List.length_map ..
    intro d nd
    refine ⟨_, rfl, _, _, _, _, rfl, rfl, ex_t (Ex.new nd) h1, atI_of (j := 1) rfl rfl, t, rfl, fo_tp h2 (fun i σ H' => ∃ x2, σ = [some (.ref a), some (.ref d), x2] ∧ Ex H H' ∧ H' d = some (.dK (trues (ded (plcs (ws.take i))))))
      ⟨none, rfl, Ex.new nd, upd_same⟩ (fun i σ H' ⟨_, _, e, _⟩ => e) ?_ ?_⟩
    · rintro i x σ H' hi ⟨x2, rfl, e, hd⟩
      obtain ⟨z, hz, rfl⟩ := str_at hi
      have zl := hx z (List.mem_of_getElem? hz)
      have hil : i < ws.length := (List.getElem?_eq_some_iff.mp hz).1
      have kl : (trues (ded (plcs (ws.take i)))).length ≤ 2000 := by
        rw [trues_len]
        have := ded_le (plcs (ws.take i))
        rw [plcs_len, List.length_take] at this
        omega
      refine ⟨_, rfl, _, rfl, 1, rfl, _, rfl, z, rfl, sz_of (by omega), ?_⟩
      rw [show cutS z none (some (-1)) = begS z from cut_beg z]
      refine ⟨d, _, rfl, DPut.k (k := kS (begS z)) hd (sz_lt (by omega)), ?_⟩
      rw [trues_add]
      refine ⟨_, rfl, _, rfl, 1, rfl, z, rfl, sz_of (by omega), ?_⟩
      rw [cut_end]
      have kl2 : (trues (addS (ded (plcs (ws.take i))) (begS z))).length ≤ 2001 := by
        have := addS_len (ded (plcs (ws.take i))) (begS z)
        rw [trues_len] at kl ⊢
        omega
      refine ⟨d, _, rfl, DPut.k (k := kS (endS z)) upd_same (sz_lt (by omega)), ?_⟩
      rw [trues_add, upd_upd]
      refine ⟨_, rfl, Ex.mut e nd, ?_⟩
      rw [upd_same, ded_plcs hz]
    · rintro σ H' ⟨x2, rfl, e, hd⟩
      rw [lmap, take_len] at hd
      refine ⟨_, rfl, d, _, ded (plcs ws), rfl, .inl hd, trues_keys _, ?_, fun p np => q _ _ (e.trans (Ex.new np)) (dpL (SqL.of upd_same))⟩
      have := ded_le (plcs ws)
      rw [plcs_len] at this
      omega
end
section
variable {P : Program} {w : World} {K : PySem.W.Frag} {mg : Str → Option Value} {base : Heap}
theorem plcs_one (ws : List Str) (z : Str) : plcs (ws ++ [z]) = (plcs ws ++ [begS z]) ++ [endS z] := by
  rw [plcs_app, List.append_assoc]
  rfl
/-- a place of a longer book stands by no window of the book ahead -/
theorem grp_new {g : Str → Str} {ws : List Str} {p : Str} (h : p ∉ plcs ws) : grp begS g ws p = [] := grp_none fun x hx e => h (e ▸ beg_mem hx)
def sp_windows_out (K : PySem.W.Frag) : Sp := fun vs H Q _ => ∃ (v : V) (n : Nat) (ws : List Str), vs = [v] ∧ Dp K H v (bookD n ws) ∧ (∀ x ∈ ws, x.length ≤ 100) ∧ ws.length ≤ 1000 ∧
  ∀ d H', Ex H H' → Wd H' d (ded (plcs ws)) (grp begS id ws) → Q (.ref d) H'
theorem ok_windows_out (T : Tx K mg) : Ok P w K mg base CX0 2 "windows_out" ["book"] (sp_windows_out K) := by
  refine T.d_windows_out.ok sc_windows_out (fun vs H Q E h => ?_) (fun f cdv A outer s H vs Q E hG hr h => ?_)
  · obtain ⟨v, n, ws, rfl, _⟩ := h
    rfl
  · obtain ⟨v, n, ws, rfl, hB, hx, hl, q⟩ := h
    obtain ⟨a, t, rfl, h1, h2⟩ := dp_book hB
    refine ⟨_, (pss_cons (ps_set (i := 1) sc_windows_out.nd rfl (Or.inl rfl) pe_dnewK) (pss_cons (ps_for PassesOwn.never rfl (pi_tupK (K := K) (pe_ix (ix_tupK (K := K)) (pv 0) pe_int (fun _ _ => rfl))) (pg_name (i := 2) sc_windows_out.nd rfl (Or.inl rfl)) (pss_cons (ps_for PassesOwn.never rfl (pi_tupK (K := K) (pe_tup (pa_cons (pe_callO (ok_begin_of T) hG (hr.mono (by decide)) (pa_cons (pv 2) pa_nil)) (pa_cons (pe_callO (ok_end_of T) hG (hr.mono (by decide)) (pa_cons (pv 2) pa_nil)) pa_nil)))) (pg_name (i := 3) sc_windows_out.nd rfl (Or.inl rfl)) (pss_one (ps_if (pt_cmp (pc_dnotin (hu_of hr) (pv 3) (pv 1))) (pss_one (ps_dput (hu_of hr) (pv 1) (pv 3) (pe_lst pa_nil) rfl)) pss_nil))) (pss_cons (ps_set (i := 4) sc_windows_out.nd rfl (Or.inl rfl) (pe_dget (hu_of hr) (pv 1) (pe_callO (ok_begin_of T) hG (hr.mono (by decide)) (pa_cons (pv 2) pa_nil)) (fun _ _ => rfl))) (pss_one (ps_expr (pe_bmK (K := K) PySem.F.plainAttrs_list PySem.F.slot_list_append PySem.F.type_list_append mt_append (pv 4) (pa_cons (pv 2) pa_nil))))))) (pss_one (ps_ret (pv 1))))), ?_⟩
    have lmap : (ws.map V.str).length = ws.length := List.length_map ..
    intro d nd
    refine ⟨_, rfl, _, _, _, _, rfl, rfl, ex_t (Ex.new nd) h1, atI_of (j := 1) rfl rfl, t, rfl, fo_tp h2 (fun i σ H' => ∃ rs x2 x3 x4, σ = [some (.ref a), some (.ref d), x2, x3, x4] ∧ Wb H H' d (ded (plcs (ws.take i))) (grp begS id (ws.take i)) rs)
      ⟨fun _ => 0, none, none, none, rfl, Wb.start nd⟩ (fun i σ H' ⟨_, _, _, _, _, W⟩ => W.e) ?_ ?_⟩
    · rintro i x σ H' hi ⟨rs, x2, x3, x4, rfl, W⟩
      obtain ⟨z, hz, rfl⟩ := str_at hi
      have zl := hx z (List.mem_of_getElem? hz)
      have hil : i < ws.length := (List.getElem?_eq_some_iff.mp hz).1
      have kl : (ded (plcs (ws.take i))).length ≤ 2000 := by
        have := ded_le (plcs (ws.take i))
        rw [plcs_len, List.length_take] at this
        omega
      refine ⟨_, rfl, z, rfl, by omega, _, rfl, z, rfl, by omega, sz_of (by show 2 ≤ 1000000; decide), fun p np => ⟨p, rfl, ?_⟩⟩
      have new0 : ∀ k, k ∉ ded (plcs (ws.take i)) → grp begS id (ws.take i) k = [] := fun k hk => grp_new fun q => hk (ded_mem.mpr q)
      have Hp0 : H p = none := fresh_back W.e np
      refine fo_tp (Hb := upd H p (.tup [.str (begS z), .str (endS z)])) (xs := [.str (begS z), .str (endS z)]) (SqT.of upd_same) (fun j σ H'' => ∃ rs x3, σ = [some (.ref a), some (.ref d), some (.str z), x3, x4] ∧ Wb (upd H p (.tup [.str (begS z), .str (endS z)])) H'' d (([begS z, endS z].take j).foldl addS (ded (plcs (ws.take i)))) (grp begS id (ws.take i)) rs) ?_ ?_ ?_ ?_
      · exact ⟨rs, x3, rfl, W.up np⟩
      · exact fun j σ H'' ⟨_, _, _, W⟩ => W.e
      · rintro j x σ H'' hj ⟨rs, x3, rfl, W⟩
        obtain ⟨k, hk, rfl⟩ := str_at (ws := [begS z, endS z]) hj
        have ek : ([begS z, endS z].take (j + 1)).foldl addS (ded (plcs (ws.take i))) = addS (([begS z, endS z].take j).foldl addS (ded (plcs (ws.take i)))) k := by
          rw [take_snoc hk, List.foldl_append]
          rfl
        rw [ek]
        have hsub : ∀ y ∈ ded (plcs (ws.take i)), y ∈ ([begS z, endS z].take j).foldl addS (ded (plcs (ws.take i))) := fun y hy => foldl_addS_mem.mpr (.inl hy)
        have hlen : (([begS z, endS z].take j).foldl addS (ded (plcs (ws.take i)))).length ≤ 2002 := by
          have := nodup_len W.nk (l := ded (plcs (ws.take i)) ++ [begS z, endS z]) fun y hy => (foldl_addS_mem.mp hy).elim (fun q => List.mem_append_left _ q) fun q => List.mem_append_right _ (List.mem_of_mem_take q)
          rw [List.length_append] at this
          have e2 : [begS z, endS z].length = 2 := rfl
          omega
        generalize hks : ([begS z, endS z].take j).foldl addS (ded (plcs (ws.take i))) = ks at W hsub hlen
        refine ⟨_, rfl, _, rfl, d, _, rfl, DGet.k (k := kS k) W.hd, _, rfl, ?_⟩
        by_cases hkk : k ∈ ks
        · rw [show (!(valV (wkv rs ks) (kS k)).isSome) = false by rw [wkv_in, decide_eq_true hkk]; rfl]
          refine iteF ⟨rs, some (.str k), rfl, ?_⟩
          rw [addS, if_pos hkk]
          exact W
        · rw [show (!(valV (wkv rs ks) (kS k)).isSome) = true by rw [wkv_in, decide_eq_false hkk]; rfl]
          refine iteT ⟨sz_of (by show 0 ≤ 1000000; decide), fun p2 np2 => ⟨_, rfl, _, rfl, d, _, rfl, DPut.k (k := kS k) ((Ex.new np2) _ _ W.hd) (sz_lt (by rw [wkv_len]; omega)), fun y => if y = k then p2 else rs y, some (.str k), rfl, ?_⟩⟩
          rw [addS, if_neg hkk]
          exact W.put hkk np2 (new0 k fun q => hkk (hsub k q))
      · rintro σ H'' ⟨rs, x3, rfl, W⟩
        have W := W.down Hp0
        rw [show ([begS z, endS z].take [V.str (begS z), V.str (endS z)].length).foldl addS (ded (plcs (ws.take i))) = ded (plcs (ws.take (i + 1))) by rw [ded_plcs hz]; rfl] at W
        have hbk : begS z ∈ ded (plcs (ws.take (i + 1))) := ded_mem.mpr (beg_mem (by rw [take_snoc hz]; exact List.mem_append_right _ (List.mem_singleton.mpr rfl)))
        obtain ⟨r1, r2⟩ := W.row _ hbk
        refine ⟨_, rfl, _, rfl, z, rfl, by omega, d, .ref (rs (begS z)), rfl, ?_, ?_⟩
        · rw [← wkv_val (rs := rs) hbk]
          exact DGet.k (k := kS (begS z)) W.hd
        · refine ⟨_, rfl, .inl ⟨rfl, _, SqL.of r2⟩, _, rfl, _, _, _, rfl, rfl, r2, ?_, rs, _, _, _, rfl, ?_⟩
          · rw [List.length_map]
            have := grp_len begS id (ws.take i) (begS z)
            rw [List.length_take] at this
            exact sz_lt (by omega)
          · refine (W.app hbk).as fun k _ => ?_
            rw [take_snoc hz, grp_snoc]
            rfl
    · rintro σ H' ⟨rs, x2, x3, x4, rfl, W⟩
      rw [lmap, take_len] at W
      exact ⟨_, rfl, q _ _ W.e W.wd⟩
end

/-! ### floods -/
section
variable {P : Program} {w : World} {K : PySem.W.Frag} {mg : Str → Option Value} {base : Heap}
structure Ws (ws : List Str) : Prop where
  wd : ∀ x ∈ ws, Word x ∧ x.length ≤ 100
  few : ws.length ≤ 1000
theorem Bk.ws {n : Nat} {ws : List Str} (B : Bk n ws) : Ws ws := ⟨fun x hx => ⟨(B.win.1 x hx).1, by have := (B.win.1 x hx).2; have := B.hi; omega⟩, by have := B.few; omega⟩
theorem Ws.plc {ws : List Str} (h : Ws ws) {p : Str} (hp : p ∈ plcs ws) : Word p ∧ p.length ≤ 100 := by
  obtain ⟨x, hx, e⟩ := plcs_mem.mp hp
  obtain ⟨h1, h2⟩ := h.wd x hx
  rcases e with rfl | rfl
  · exact ⟨word_beg h1, by rw [len_beg]; omega⟩
  · exact ⟨word_end h1, by rw [len_end]; omega⟩
theorem srch_len {ws ks wl : List Str} {p : Str} {op : Str → Prop} (hp : p ∈ plcs ws) (S : Srch (nxts ws) p ks wl op) : ks.length ≤ 2 * ws.length := by
  rw [← plcs_len]
  exact nodup_len S.nd fun q hq => rch_plc hp (S.rch q hq)
/-- where a flood stands -/
structure Fl (ws : List Str) (p : Str) (Hb H : Hp) (F W : Addr) (op : Str → Prop) (ks wl : List Str) : Prop where
  e : Ex Hb H
  f : Hb F = none
  w : Hb W = none
  hF : H F = some (.dK (trues ks))
  hW : H W = some (.lst (wl.map V.str))
  S : Srch (nxts ws) p ks wl op
  n : wl.Nodup
theorem Fl.ne {ws : List Str} {p : Str} {Hb H : Hp} {F W : Addr} {op : Str → Prop} {ks wl : List Str} (f : Fl ws p Hb H F W op ks wl) : F ≠ W := ne_of f.hF f.hW fun z => nomatch z
theorem Fl.ex {ws : List Str} {p : Str} {Hb H H' : Hp} {F W : Addr} {op : Str → Prop} {ks wl : List Str} (f : Fl ws p Hb H F W op ks wl) (e : Ex H H') : Fl ws p Hb H' F W op ks wl := ⟨f.e.trans e, f.f, f.w, e _ _ f.hF, e _ _ f.hW, f.S, f.n⟩
theorem Fl.pop {ws : List Str} {p q : Str} {Hb H : Hp} {F W : Addr} {ks wl : List Str} (f : Fl ws p Hb H F W (fun _ => False) ks (wl ++ [q])) : Fl ws p Hb (upd H W (.lst (wl.map V.str))) F W (fun z => z = q) ks wl :=
  ⟨Ex.mut f.e f.w, f.f, f.w, by rw [upd_ne f.ne]; exact f.hF, upd_same, f.S.pop, (List.nodup_append.mp f.n).1⟩
theorem Fl.put {ws : List Str} {p q r : Str} {Hb H : Hp} {F W : Addr} {ks wl : List Str} (f : Fl ws p Hb H F W (fun z => z = q) ks wl) (hq : q ∈ ks) (hr : r ∈ nxts ws q) (hn : r ∉ ks) :
    Fl ws p Hb (upd (upd H F (.dK (putK (trues ks) (kS r) (.bl true)))) W (.lst (wl.map V.str ++ [.str r]))) F W (fun z => z = q) (ks ++ [r]) (wl ++ [r]) :=
  ⟨Ex.mut (Ex.mut f.e f.f) f.w, f.f, f.w, by rw [upd_ne f.ne, upd_same, trues_put hn], by rw [upd_same, List.map_append]; rfl, f.S.put hq hr hn, List.nodup_append.mpr ⟨f.n, nodup_one r, fun a ha b hb (e : a = b) => hn (by rw [← List.mem_singleton.mp hb, ← e]; exact f.S.sub a ha)⟩⟩
theorem Fl.shut {ws : List Str} {p q : Str} {Hb H : Hp} {F W : Addr} {ks wl : List Str} (f : Fl ws p Hb H F W (fun z => z = q) ks wl) (h : ∀ r ∈ nxts ws q, r ∈ ks) : Fl ws p Hb H F W (fun _ => False) ks wl := ⟨f.e, f.f, f.w, f.hF, f.hW, f.S.shut h, f.n⟩
/-- how much is left to do -/
def flm (ws ks wl : List Str) : Nat := 2 * (2 * ws.length - ks.length) + wl.length
def sp_places_from (K : PySem.W.Frag) : Sp := fun vs H Q _ => ∃ (v : V) (n : Nat) (ws : List Str) (p : Str), vs = [v, .str p] ∧ Dp K H v (bookD n ws) ∧ Ws ws ∧ p ∈ plcs ws ∧
  ∀ d H' ks, Ex H H' → H d = none → ks.Nodup → (∀ q, q ∈ ks ↔ Rch (nxts ws) p q) → H' d = some (.dK (trues ks)) → Q (.ref d) H'
theorem ok_places_from (T : Tx K mg) : Ok P w K mg base CX0 3 "places_from" ["book", "spot"] (sp_places_from K) := by
  refine T.d_places_from.ok sc_places_from (fun vs H Q E h => ?_) (fun f cdv A outer s H vs Q E hG hr h => ?_)
  · obtain ⟨v, n, ws, p, rfl, _⟩ := h
    rfl
  · obtain ⟨v, n, ws, p, rfl, hB, hw, hp, q⟩ := h
    refine ⟨_, (pss_cons (ps_set (i := 2) sc_places_from.nd rfl (Or.inl rfl) (pe_callO (ok_windows_out T) hG (hr.mono (by decide)) (pa_cons (pv 0) pa_nil))) (pss_cons (ps_par (i := 3) (j := 4) rfl sc_places_from.nd rfl rfl (by decide) rfl rfl (pa_cons (pe_disp (pps_cons (pv 1) pe_bl pps_nil) (by rfl) (by rfl) (fun z => by cases z) (by decide)) (pa_cons (pe_lst (pa_cons (pv 1) pa_nil)) pa_nil)) (by rfl)) (pss_cons (ps_while PassesOwn.never (pt_cmpR (op_neDK (K := K) hr.units) (pv 4) (pe_lst pa_nil) (nomark _)) (pss_one (ps_for PassesOwn.never rfl (pi_listK (K := K) (pe_dget (hu_of hr) (pv 2) (pe_bm0K (K := K) PySem.F.plainAttrs_list PySem.F.slot_list_pop PySem.F.type_list_pop mt_pop (pv 4)) (fun _ _ => rfl))) (pg_name (i := 5) sc_places_from.nd rfl (Or.inl rfl)) (pss_one (ps_if (pt_cmp (pc_dnotin (hu_of hr) (pe_callO (ok_end_of T) hG (hr.mono (by decide)) (pa_cons (pv 5) pa_nil)) (pv 3))) (pss_cons (ps_dput (hu_of hr) (pv 3) (pe_callO (ok_end_of T) hG (hr.mono (by decide)) (pa_cons (pv 5) pa_nil)) pe_bl rfl) (pss_one (ps_expr (pe_bmK (K := K) PySem.F.plainAttrs_list PySem.F.slot_list_append PySem.F.type_list_append mt_append (pv 4) (pa_cons (pe_callO (ok_end_of T) hG (hr.mono (by decide)) (pa_cons (pv 5) pa_nil)) pa_nil))))) pss_nil))))) (pss_one (ps_ret (pv 3)))))), ?_⟩
    refine ⟨_, rfl, v, n, ws, rfl, hB, fun x hx => (hw.wd x hx).2, hw.few, fun D H1 e1 wD => ?_⟩
    -- found, waiting
    refine fun F nF => ⟨_, rfl, upd_same, [(kS p, .bl true)], rfl, by show 1 ≤ 15; decide, _, rfl, sz_of (by show 1 ≤ 1000000; decide), fun W nW => ⟨_, _, rfl, ?_⟩⟩
    have FW : F ≠ W := ne_of_none upd_same nW
    have nW1 : H1 W = none := by
      rw [upd_upd, upd_ne FW.symm] at nW
      exact nW
    have fl0 : Fl ws p H1 (upd (upd (upd H1 F (.dK [])) F (.dK (mergeK [] [(kS p, .bl true)]))) W (.lst [.str p])) F W (fun _ => False) [p] [p] := by
      rw [upd_upd]
      exact ⟨Ex.mut (Ex.new nF) nW1, nF, nW1, by rw [upd_ne FW, upd_same]; rfl, by rw [upd_same]; rfl, .start, nodup_one p⟩
    refine ⟨fun m σ H' => ∃ x5 ks wl, σ = [some v, some (.str p), some (.ref D), some (.ref F), some (.ref W), x5] ∧ m = flm ws ks wl ∧ Fl ws p H1 H' F W (fun _ => False) ks wl, ⟨_, _, _, _, rfl, rfl, fl0⟩, ?_⟩
    rintro m σ H' ⟨x5, ks, wl, rfl, rfl, fl⟩
    have wlw : ∀ z ∈ wl, Word z := fun z hz => (hw.plc (rch_plc hp (fl.S.rch z (fl.S.sub z hz)))).1
    refine ⟨_, rfl, sz_of (by show 0 ≤ 1000000; decide), fun np nnp => ⟨strsL wl, .list [], dpL (SqL.of ((Ex.new nnp) _ _ fl.hW)), .lst (SqL.of upd_same) .nil, shapedL wlw, rfl, _, rfl, ?_⟩⟩
    have fl := fl.ex (Ex.new (o := .lst []) nnp)
    rcases snoc_cases wl with rfl | ⟨wl', pp, rfl⟩
    · exact iteF ⟨_, rfl, q _ _ _ (e1.trans fl.e) (fresh_back e1 fl.f) fl.S.nd fl.S.done fl.hF⟩
    · rw [ne_nilS]
      refine iteT ⟨fun σ' H' => ∃ x5 ks' wl2, σ' = [some v, some (.str p), some (.ref D), some (.ref F), some (.ref W), x5] ∧ flm ws ks' wl2 < flm ws ks (wl' ++ [pp]) ∧ Fl ws p H1 H' F W (fun _ => False) ks' wl2,
        fun σ' H' ⟨x5, ks', wl2, e, l, f⟩ => ⟨_, l, x5, ks', wl2, e, rfl, f⟩, ?_⟩
      have ppk : pp ∈ ks := fl.S.sub _ (List.mem_append_right _ (List.mem_singleton.mpr rfl))
      have ppp : pp ∈ plcs ws := rch_plc hp (fl.S.rch pp ppk)
      obtain ⟨r, g1, g2⟩ := wD.get (ded_mem.mpr ppp)
      refine ⟨_, rfl, _, rfl, .inl ⟨rfl, _, SqL.of fl.hW⟩, _, _, .str pp, rfl, rfl, fl.hW, last_at, ?_⟩
      rw [drop_last]
      have fl := fl.pop
      have ksl := srch_len hp fl.S
      refine ⟨D, .ref r, rfl, g1 _ fl.e, r, rfl, fo_lst (SqL.of g2) (fun j σ H'' => ∃ x5 ks' wl2, σ = [some v, some (.str p), some (.ref D), some (.ref F), some (.ref W), x5] ∧ Fl ws p H1 H'' F W (fun z => z = pp) ks' wl2 ∧ flm ws ks' wl2 < flm ws ks (wl' ++ [pp]) ∧ pp ∈ ks' ∧ ∀ x ∈ (grp begS id ws pp).take j, endS x ∈ ks')
        ⟨x5, ks, wl', rfl, fl, ?_, ppk, fun x hx => (List.not_mem_nil hx).elim⟩ (fun j σ H'' ⟨_, _, _, _, f, _⟩ => f.e) ?_ ?_⟩
      · unfold flm
        rw [List.length_append]
        have : [pp].length = 1 := rfl
        omega
      · rintro j x σ H'' hj ⟨x5, ks', wl2, rfl, fl, lt, hpp, hin⟩
        obtain ⟨z, hz, rfl⟩ := str_at hj
        have zg : z ∈ grp begS id ws pp := List.mem_of_getElem? hz
        have zo : z ∈ ws ∧ begS z = pp := by
          obtain ⟨y, hy, rfl⟩ := List.mem_map.mp zg
          exact outs_mem.mp hy
        have zl := (hw.wd z zo.1).2
        have znx : endS z ∈ nxts ws pp := nxts_mem.mpr ⟨z, zo.1, zo.2, rfl⟩
        have ksl := srch_len hp fl.S
        have few := hw.few
        refine ⟨_, rfl, z, rfl, by omega, _, rfl, F, _, rfl, DGet.k (k := kS (endS z)) fl.hF, _, rfl, ?_⟩
        by_cases hk : endS z ∈ ks'
        · rw [show (!(valV (trues ks') (kS (endS z))).isSome) = false by rw [trues_in, decide_eq_true hk]; rfl]
          refine iteF ⟨_, ks', wl2, rfl, fl, lt, hpp, fun y hy => ?_⟩
          rw [take_snoc hz] at hy
          rcases List.mem_append.mp hy with hy | hy
          · exact hin y hy
          · rw [List.mem_singleton.mp hy]
            exact hk
        · rw [show (!(valV (trues ks') (kS (endS z))).isSome) = true by rw [trues_in, decide_eq_false hk]; rfl]
          have fl2 := fl.put hpp znx hk
          have ksl2 := srch_len hp fl2.S
          have wll : wl2.length ≤ 4000 := by
            have h1 := nodup_len fl.n fl.S.sub
            omega
          refine iteT ⟨_, rfl, _, rfl, z, rfl, by omega, F, _, rfl, DPut.k (k := kS (endS z)) fl.hF (sz_lt (by rw [trues_len]; omega)), ?_⟩
          have hW2 : (upd H'' F (.dK (putK (trues ks') (kS (endS z)) (.bl true)))) W = some (.lst (wl2.map V.str)) := by
            rw [upd_ne fl.ne.symm]
            exact fl.hW
          refine ⟨_, rfl, .inl ⟨rfl, _, SqL.of hW2⟩, _, rfl, z, rfl, by omega, _, _, _, rfl, rfl, hW2, sz_lt (by rw [List.length_map]; omega), some (.str z), ks' ++ [endS z], wl2 ++ [endS z], rfl, fl2, ?_, List.mem_append_left _ hpp, fun y hy => ?_⟩
          · have e : flm ws (ks' ++ [endS z]) (wl2 ++ [endS z]) < flm ws ks' wl2 := by
              unfold flm
              rw [List.length_append, List.length_append] at *
              have : [endS z].length = 1 := rfl
              omega
            omega
          · rw [take_snoc hz] at hy
            rcases List.mem_append.mp hy with hy | hy
            · exact List.mem_append_left _ (hin y hy)
            · rw [List.mem_singleton.mp hy]
              exact List.mem_append_right _ (List.mem_singleton.mpr rfl)
      · rintro σ H'' ⟨x5, ks', wl2, rfl, fl, lt, hpp, hin⟩
        refine ⟨x5, ks', wl2, rfl, lt, fl.shut fun r hr => ?_⟩
        obtain ⟨y, hy, h1, rfl⟩ := nxts_mem.mp hr
        refine hin y ?_
        rw [List.length_map, List.take_length]
        exact List.mem_map.mpr ⟨y, outs_mem.mpr ⟨hy, h1⟩, rfl⟩
end
section
variable {P : Program} {w : World} {K : PySem.W.Frag} {mg : Str → Option Value} {base : Heap}
def sp_a_closed_lot (K : PySem.W.Frag) : Sp := fun vs H Q _ => ∃ (v : V) (n : Nat) (ws : List Str), vs = [v] ∧ Dp K H v (bookD n ws) ∧ Ws ws ∧ RetD K (closedD ws) H Q
theorem ok_a_closed_lot (T : Tx K mg) : Ok P w K mg base CX0 4 "a_closed_lot" ["book"] (sp_a_closed_lot K) := by
  refine T.d_a_closed_lot.ok sc_a_closed_lot (fun vs H Q E h => ?_) (fun f cdv A outer s H vs Q E hG hr h => ?_)
  · obtain ⟨v, n, ws, rfl, _⟩ := h
    rfl
  · obtain ⟨v, n, ws, rfl, hB, hw, q⟩ := h
    refine ⟨_, (pss_cons (ps_set (i := 1) sc_a_closed_lot.nd rfl (Or.inl rfl) (pe_callO (ok_places_of T) hG (hr.mono (by decide)) (pa_cons (pv 0) pa_nil))) (pss_cons (ps_for PassesOwn.never rfl (pi_listK (K := K) (pv 1)) (pg_name (i := 2) sc_a_closed_lot.nd rfl (Or.inl rfl)) (pss_cons (ps_set (i := 3) sc_a_closed_lot.nd rfl (Or.inl rfl) (pe_callO (ok_places_from T) hG (hr.mono (by decide)) (pa_cons (pv 0) (pa_cons (pv 2) pa_nil)))) (pss_one (ps_if (pt_cmpR op_lt (pe_callB call_lenD (by rfl) T.b_len PySem.boot_len (pa_cons (pv 3) pa_nil)) (pe_callB (call_lenK (K := K)) (by rfl) T.b_len PySem.boot_len (pa_cons (pv 1) pa_nil)) (nomark _)) (pss_one (ps_ret (pe_callTy (call_tupleK (K := K)) (by rfl) T.b_tuple (by decide +kernel) (pa_cons (pe_callB (cr_sortDct (K := K) rfl hr.units) (by rfl) T.b_sorted (by decide +kernel) (pa_cons (pv 3) pa_nil)) pa_nil)))) pss_nil)))) (pss_one (ps_ret pe_non)))), ?_⟩
    refine ⟨_, rfl, v, n, ws, rfl, hB, fun x hx => (hw.wd x hx).2, hw.few, fun u H1 e1 hu => ?_⟩
    obtain ⟨a, rfl, hS⟩ := dp_strsL hu
    have few := hw.few
    have plen := places_len ws
    refine ⟨_, rfl, a, rfl, fo_lst hS (fun i σ H' => ∃ x2 x3, σ = [some v, some (.ref a), x2, x3] ∧ Ex H1 H' ∧ ∀ x ∈ (places ws).take i, shy ws x = false) ⟨none, none, rfl, Ex.refl _, fun x hx => (List.not_mem_nil hx).elim⟩ (fun i σ H' ⟨_, _, _, e, _⟩ => e) ?_ ?_⟩
    · rintro i x σ H' hi ⟨x2, x3, rfl, e, hn⟩
      obtain ⟨p, hp, rfl⟩ := str_at hi
      have pp : p ∈ plcs ws := places_mem.mp (List.mem_of_getElem? hp)
      refine ⟨_, rfl, _, rfl, v, n, ws, p, rfl, dp_ex (e1.trans e) hB, hw, pp, fun d H2 ks e2 _ nd hk hd => ?_⟩
      have hsk := rchL_ks pp nd hk
      have hlen : ks.length = (rchL ws p).length := by rw [← hsk, sortS_len]
      refine ⟨_, rfl, d, trues ks, rfl, hd, _, rfl, _, _, rfl, .inl (ex_l (e.trans e2) hS), _, _, rfl, rfl, _, rfl, ?_⟩
      rw [show decide (((trues ks).length : Int) < (((places ws).map V.str).length : Int)) = shy ws p from by
        unfold shy
        rw [trues_len, List.length_map, hlen]
        exact decide_eq_decide.mpr (by omega)]
      cases hs : shy ws p with
      | true =>
        refine iteT ⟨_, rfl, d, _, ks, rfl, .inl hd, trues_keys ks, ?_, fun z nz => ⟨z, _, rfl, .inl ⟨SqL.of upd_same, fun l nl => ?_⟩⟩⟩
        · have := (List.length_filter_le (rchB ws p) (places ws))
          have : ks.length ≤ (places ws).length := by rw [hlen]; exact this
          omega
        · refine q _ _ ((((e1.trans e).trans e2).trans (Ex.new nz)).trans (Ex.new nl)) ?_
          rw [closedD_some hn hp hs, hsk]
          exact dpT (SqT.of upd_same)
      | false =>
        refine iteF ⟨_, _, rfl, e.trans e2, fun x hx => ?_⟩
        rw [take_snoc hp] at hx
        rcases List.mem_append.mp hx with hx | hx
        · exact hn x hx
        · rw [List.mem_singleton.mp hx]
          exact hs
    · rintro σ H' ⟨x2, x3, rfl, e, hn⟩
      rw [List.length_map, List.take_length] at hn
      refine q _ _ (e1.trans e) ?_
      rw [closedD_none hn]
      exact .non
end

/-! ### what may go -/
section
variable {P : Program} {w : World} {K : PySem.W.Frag} {mg : Str → Option Value} {base : Heap}
theorem Ws.minus {ws lot : List Str} (h : Ws ws) : Ws (minus ws lot) := ⟨fun x hx => h.wd x (minus_mem.mp hx).1, Nat.le_trans (minus_len ..) h.few⟩
def sp_book_without (K : PySem.W.Frag) : Sp := fun vs H Q _ => ∃ (v u : V) (n : Nat) (ws lot : List Str), vs = [v, u] ∧ Dp K H v (bookD n ws) ∧ Dp K H u (strsT lot) ∧ Ws ws ∧ RetD K (bookD n (minus ws lot)) H Q
theorem ok_book_without (T : Tx K mg) : Ok P w K mg base CX0 1 "book_without" ["book", "windows"] (sp_book_without K) := by
  refine T.d_book_without.ok sc_book_without (fun vs H Q E h => ?_) (fun f cdv A outer s H vs Q E hG hr h => ?_)
  · obtain ⟨v, u, n, ws, lot, rfl, _⟩ := h
    rfl
  · obtain ⟨v, u, n, ws, lot, rfl, hB, hL, hw, q⟩ := h
    obtain ⟨a, t, rfl, h1, h2⟩ := dp_book hB
    obtain ⟨b, rfl, h3⟩ := dp_strsT hL
    refine ⟨_, (pss_one (ps_ret (pe_tup (pa_cons (pe_ix (ix_tupK (K := K)) (pv 0) pe_int (fun _ _ => rfl)) (pa_cons (pe_callTy (call_tupleK (K := K)) (by rfl) T.b_tuple (by decide +kernel) (pa_cons (pe_lc (own := [("window", 2)]) (g := gName 2) rfl sc_book_without.nd (pi_tupK (K := K) (pe_ix (ix_tupK (K := K)) (pv 0) pe_int (fun _ _ => rfl))) (blkOk_by (own := [("window", 2)]) (N := n_book_without) (sc := defScope s_book_without) (by decide +kernel)) (fun _ _ _ _ _ => pg_name (i := 2) sc_book_without.nd rfl (Or.inl rfl)) (fun _ _ _ _ _ => pts_one (pt_cmpR (op_notInK (K := K)) (pv 2) (pv 1) (by rfl))) (fun _ _ _ _ _ => (pv 2))) pa_nil)) pa_nil))))), ?_⟩
    have few := hw.few
    refine ⟨_, rfl, _, _, _, _, rfl, rfl, h1, atI_of (j := 0) rfl rfl, _, rfl, _, _, _, _, rfl, rfl, h1, atI_of (j := 1) rfl rfl, t, rfl, ⟨_, h2⟩, fun D np => ?_⟩
    refine lcs_tp h2 (fun x => !decide (x ∈ lot)) PyData.str np (by omega) (fun _ _ => rfl) (fun z H2 Y Z hz e hy hn => ?_) (fun H' acc e hp ha => ?_)
    · refine ⟨rfl, _, rfl, _, rfl, _, _, rfl, .inr (ex_t e h3), rfl, flat_strs _, _, rfl, ?_⟩
      show (fun b H4 => _) (!inV (V.str z) (lot.map V.str)) H2
      rw [inV_strs]
      cases hb : (!decide (z ∈ lot)) with
      | true => exact iteT ⟨_, rfl, hy hb _ _ (Ex.refl _) (.str z)⟩
      | false => exact iteF (hn hb _ (Ex.refl _))
    · have ha := strs_dpa ha
      subst ha
      refine ⟨_, _, rfl, .inl ⟨SqL.of hp, fun l nl => ⟨sz_of (by show 2 ≤ 1000000; decide), fun p np2 => q _ _ ((e.trans (Ex.new nl)).trans (Ex.new np2)) ?_⟩⟩⟩
      exact bookDp (SqT.of upd_same) (ex_t (Ex.new np2) (SqT.of upd_same))
theorem scB_minus_nil {ws : List Str} (h : ws = []) : scB ws = false := scB_false fun z => z.1 h
theorem scB_hang {ws : List Str} (h : ws ≠ []) (hh : Hang ws) : scB ws = true := scB_iff.mpr ⟨h, hh⟩
def sp_can_go (K : PySem.W.Frag) : Sp := fun vs H Q _ => ∃ (v u : V) (n : Nat) (ws lot : List Str), vs = [v, u] ∧ Dp K H v (bookD n ws) ∧ Dp K H u (strsT lot) ∧ Ws ws ∧ RetD K (.bool (scB (minus ws lot))) H Q
theorem ok_can_go (T : Tx K mg) : Ok P w K mg base CX0 5 "can_go" ["book", "windows"] (sp_can_go K) := by
  refine T.d_can_go.ok sc_can_go (fun vs H Q E h => ?_) (fun f cdv A outer s H vs Q E hG hr h => ?_)
  · obtain ⟨v, u, n, ws, lot, rfl, _⟩ := h
    rfl
  · obtain ⟨v, u, n, ws, lot, rfl, hB, hL, hw, q⟩ := h
    refine ⟨_, (pss_cons (ps_set (i := 2) sc_can_go.nd rfl (Or.inl rfl) (pe_callO (ok_book_without T) hG (hr.mono (by decide)) (pa_cons (pv 0) (pa_cons (pv 1) pa_nil)))) (pss_one (ps_ret (pe_and (pe_cmpR (op_neDK (K := K) hr.units) (pe_ix (ix_tupK (K := K)) (pv 2) pe_int (fun _ _ => rfl)) (pe_tup pa_nil) (nomark _)) (pe_one (pe_cmpR op_isN (pe_callO (ok_a_closed_lot T) hG (hr.mono (by decide)) (pa_cons (pv 2) pa_nil)) pe_non (nomark _))))))), ?_⟩
    refine ⟨_, rfl, _, rfl, v, u, n, ws, lot, rfl, hB, hL, hw, fun l H1 e1 hl => ?_⟩
    obtain ⟨a, t, rfl, h1, h2⟩ := dp_book hl
    refine ⟨_, rfl, _, _, _, _, rfl, rfl, h1, atI_of (j := 1) rfl rfl, sz_of (by show 0 ≤ 1000000; decide), fun p np => ?_⟩
    have wd : ∀ x ∈ minus ws lot, Word x := fun x hx => (hw.minus.wd x hx).1
    refine ⟨strsT (minus ws lot), .tuple [], dpT (ex_t (Ex.new np) h2), .tup (SqT.of upd_same) .nil, shapedT wd, rfl, ?_⟩
    rw [ne_nilT]
    by_cases hm : minus ws lot = []
    · rw [decide_eq_true hm]
      refine ⟨_, rfl, iteF (q _ _ (e1.trans (Ex.new np)) ?_)⟩
      rw [scB_minus_nil hm]
      exact .bl false
    · rw [decide_eq_false hm]
      refine ⟨_, rfl, iteT ⟨_, rfl, .ref a, n, minus ws lot, rfl, dp_ex (Ex.new np) hl, hw.minus, fun c H2 e2 hc => ⟨rfl, q _ _ ((e1.trans (Ex.new np)).trans e2) ?_⟩⟩⟩
      by_cases hh : Hang (minus ws lot)
      · rw [closedD_hang hh] at hc
        obtain rfl := dp_non hc
        rw [scB_hang hm hh]
        exact .bl true
      · obtain ⟨l, hl2⟩ := closedD_not hh
        rw [hl2] at hc
        obtain ⟨b, rfl, _⟩ := dp_strsT hc
        rw [scB_false fun z => hh z.2]
        exact .bl false
/-- where the book hangs -/
def sp_need_some_ring (K : PySem.W.Frag) : Sp := fun vs H Q _ => ∃ (v : V) (n : Nat) (ws : List Str), vs = [v] ∧ Dp K H v (bookD n ws) ∧ Bk n ws ∧ Hang ws ∧ ∀ H', Ex H H' → Q .non H'
theorem ok_need_some_ring (T : Tx K mg) : Ok P w K mg base CX0 5 "need_some_ring" ["book"] (sp_need_some_ring K) := by
  refine T.d_need_some_ring.ok sc_need_some_ring (fun vs H Q E h => ?_) (fun f cdv A outer s H vs Q E hG hr h => ?_)
  · obtain ⟨v, n, ws, rfl, _⟩ := h
    rfl
  · obtain ⟨v, n, ws, rfl, hB, B, hh, q⟩ := h
    refine ⟨_, (pss_cons (ps_expr (pe_callO (ok_need_book T) hG (hr.mono (by decide)) (pa_cons (pv 0) pa_nil))) (pss_one (ps_if (pt_cmpR op_notN (pe_callO (ok_a_closed_lot T) hG (hr.mono (by decide)) (pa_cons (pv 0) pa_nil)) pe_non (nomark _)) (pss_one ps_never) pss_nil))), ?_⟩
    refine ⟨_, rfl, v, n, ws, rfl, hB, B, fun H1 e1 => ⟨_, rfl, v, n, ws, rfl, dp_ex e1 hB, B.ws, fun c H2 e2 hc => ?_⟩⟩
    rw [closedD_hang hh] at hc
    obtain rfl := dp_non hc
    exact ⟨rfl, _, rfl, iteF (q _ (e1.trans e2))⟩
noncomputable def neededL (ws : List Str) : List Str := ws.filter fun x => !scB (minus ws [x])
def sp_needed (K : PySem.W.Frag) : Sp := fun vs H Q _ => ∃ (v : V) (n : Nat) (ws : List Str), vs = [v] ∧ Dp K H v (bookD n ws) ∧ Bk n ws ∧ Hang ws ∧ NewL (neededL ws) H Q
theorem ok_needed (T : Tx K mg) : Ok P w K mg base CX0 6 "needed" ["book"] (sp_needed K) := by
  refine T.d_needed.ok sc_needed (fun vs H Q E h => ?_) (fun f cdv A outer s H vs Q E hG hr h => ?_)
  · obtain ⟨v, n, ws, rfl, _⟩ := h
    rfl
  · obtain ⟨v, n, ws, rfl, hB, B, hh, q⟩ := h
    refine ⟨_, (pss_cons (ps_expr (pe_callO (ok_need_some_ring T) hG (hr.mono (by decide)) (pa_cons (pv 0) pa_nil))) (pss_one (ps_ret (pe_lc (own := [("window", 1)]) (g := gName 1) rfl sc_needed.nd (pi_tupK (K := K) (pe_ix (ix_tupK (K := K)) (pv 0) pe_int (fun _ _ => rfl))) (blkOk_by (own := [("window", 1)]) (N := n_needed) (sc := defScope s_needed) (by decide +kernel)) (fun _ _ _ _ _ => pg_name (i := 1) sc_needed.nd rfl (Or.inl rfl)) (fun _ _ _ _ _ => pts_one (pt_not (pt_val (pe_callO (ok_can_go T) hG (hr.mono (by decide)) (pa_cons (pv 0) (pa_cons (pe_tup (pa_cons (pv 1) pa_nil)) pa_nil)))))) (fun _ _ _ _ _ => (pv 1)))))), ?_⟩
    refine ⟨_, rfl, v, n, ws, rfl, hB, B, hh, fun H1 e1 => ?_⟩
    have hB1 := dp_ex e1 hB
    obtain ⟨a, t, rfl, h1, h2⟩ := dp_book hB1
    have few := B.few
    refine ⟨_, rfl, _, _, _, _, rfl, rfl, h1, atI_of (j := 1) rfl rfl, t, rfl, ⟨_, h2⟩, fun D np => ?_⟩
    refine lcs_tp h2 (fun x => !scB (minus ws [x])) PyData.str np (by omega) (fun _ _ => rfl) (fun z H2 Y Z hz e hy hn => ?_) (fun H' acc e hp ha => ?_)
    · refine ⟨rfl, _, rfl, _, rfl, sz_of (by show 1 ≤ 1000000; decide), fun p np2 => ⟨_, _, n, ws, [z], rfl, dp_ex (e.trans (Ex.new np2)) hB1, dpT (SqT.of upd_same), B.ws, fun c H3 e3 hc => ?_⟩⟩
      obtain rfl := dp_bl hc
      refine ⟨_, rfl, ?_⟩
      cases hb : scB (minus ws [z]) with
      | true => exact iteF (hn (by show (!scB (minus ws [z])) = false; rw [hb]; rfl) _ ((Ex.new np2).trans e3))
      | false => exact iteT ⟨_, rfl, hy (by show (!scB (minus ws [z])) = true; rw [hb]; rfl) _ _ ((Ex.new np2).trans e3) (.str z)⟩
    · have ha := strs_dpa ha
      subst ha
      exact q _ _ (e1.trans e) (fresh_back e1 np) hp
def sp_may_go (K : PySem.W.Frag) : Sp := fun vs H Q _ => ∃ (v u : V) (n : Nat) (ws lot : List Str), vs = [v, u] ∧ Dp K H v (bookD n ws) ∧ Dp K H u (strsT lot) ∧ Bk n ws ∧ Win n lot ∧ (∀ x ∈ lot, x ∈ ws) ∧ lot.length < ws.length ∧ RetD K (.bool (scB (minus ws lot))) H Q
theorem ok_may_go (T : Tx K mg) : Ok P w K mg base CX0 6 "may_go" ["book", "windows"] (sp_may_go K) := by
  refine T.d_may_go.ok sc_may_go (fun vs H Q E h => ?_) (fun f cdv A outer s H vs Q E hG hr h => ?_)
  · obtain ⟨v, u, n, ws, lot, rfl, _⟩ := h
    rfl
  · obtain ⟨v, u, n, ws, lot, rfl, hB, hL, B, hW, hin, hlt, q⟩ := h
    refine ⟨_, (pss_cons (ps_expr (pe_callO (ok_need_book T) hG (hr.mono (by decide)) (pa_cons (pv 0) pa_nil))) (pss_cons (ps_if (PW.pt (pw_or (pt_not (pt_val (pe_callO (ok_are_windows T) hG (hr.mono (by decide)) (pa_cons (pe_ix (ix_tupK (K := K)) (pv 0) pe_int (fun _ _ => rfl)) (pa_cons (pv 1) pa_nil))))) (pw_or1 (pt_not (pt_val (pe_callB (cr_allK (K := K) rfl) (by rfl) T.b_all (by decide +kernel) (pa_cons (pe_lc (own := [("window", 2)]) (g := gName 2) (tt := tYes) rfl sc_may_go.nd (pi_tupK (K := K) (pv 1)) (blkOk_by (own := [("window", 2)]) (N := n_may_go) (sc := defScope s_may_go) (by decide +kernel)) (fun _ _ _ _ _ => pg_name (i := 2) sc_may_go.nd rfl (Or.inl rfl)) (fun _ _ _ _ _ => pts_nil) (fun _ _ _ _ _ => (pe_cmpR (op_inK (K := K)) (pv 2) (pe_ix (ix_tupK (K := K)) (pv 0) pe_int (fun _ _ => rfl)) (by rfl)))) pa_nil))))))) (pss_one ps_never) pss_nil) (pss_cons (ps_if (pt_cmpR op_eq (pe_callB (call_lenK (K := K)) (by rfl) T.b_len PySem.boot_len (pa_cons (pv 1) pa_nil)) (pe_callB (call_lenK (K := K)) (by rfl) T.b_len PySem.boot_len (pa_cons (pe_ix (ix_tupK (K := K)) (pv 0) pe_int (fun _ _ => rfl)) pa_nil)) (nomark _)) (pss_one ps_never) pss_nil) (pss_one (ps_ret (pe_callO (ok_can_go T) hG (hr.mono (by decide)) (pa_cons (pv 0) (pa_cons (pv 1) pa_nil)))))))), ?_⟩
    refine ⟨_, rfl, v, n, ws, rfl, hB, B, fun H1 e1 => ?_⟩
    have hB1 := dp_ex e1 hB
    have hL1 := dp_ex e1 hL
    obtain ⟨a, t, rfl, h1, h2⟩ := dp_book hB1
    obtain ⟨b, rfl, h3⟩ := dp_strsT hL1
    have few := B.few
    have hi := B.hi
    refine ⟨_, rfl, _, _, _, _, rfl, rfl, h1, atI_of (j := 0) rfl rfl, _, rfl, n, b, lot, rfl, h3, hW, hi, by omega, fun c H2 e2 hc => ?_⟩
    obtain rfl := dp_bl hc
    refine ⟨true, rfl, iteF ⟨_, rfl, b, rfl, ⟨_, ex_t e2 h3⟩, fun D np => ?_⟩⟩
    refine lcs_tp (ex_t e2 h3) (fun _ => true) (fun x => PyData.bool (decide (x ∈ ws))) np (by omega) (fun _ _ => rfl) (fun z H2 Y Z hz e hy hn => ?_) (fun H' acc e hp ha => ?_)
    · refine ⟨rfl, lc_yes ⟨_, rfl, _, rfl, _, _, _, _, rfl, rfl, ex_t (e2.trans e) h1, atI_of (j := 1) rfl rfl, t, _, rfl, .inr (ex_t (e2.trans e) h2), rfl, flat_strs _, ?_⟩⟩
      show Y (.bl (inV (V.str z) (ws.map V.str))) H2
      rw [inV_strs]
      exact hy rfl _ _ (Ex.refl _) (.bl _)
    · rw [filter_true] at ha
      have ha := bls_all ha
      subst ha
      refine ⟨_, _, rfl, SqL.of hp, _, rfl, ?_⟩
      have et : ((lot.map fun x => decide (x ∈ ws)).all id) = true := by
        rw [List.all_map]
        exact List.all_eq_true.mpr fun x hx => decide_eq_true (hin x hx)
      rw [et]
      refine iteF ⟨_, rfl, _, _, rfl, .inr (ex_t (e2.trans e) h3), _, rfl, _, _, _, _, rfl, rfl, ex_t (e2.trans e) h1, atI_of (j := 1) rfl rfl, _, _, rfl, .inr (ex_t (e2.trans e) h2), rfl, _, rfl, ?_⟩
      rw [decide_eq_false (fun (z : V.int ((lot.map V.str).length : Int) = V.int ((ws.map V.str).length : Int)) => by
        have z := V.int.inj z
        rw [List.length_map, List.length_map] at z
        omega)]
      exact iteF ⟨_, rfl, _, rfl, _, _, n, ws, lot, rfl, dp_ex (e2.trans e) hB1, dp_ex (e2.trans e) hL1, B.ws, fun c H3 e3 hc => q _ _ (((e1.trans e2).trans e).trans e3) hc⟩
end

/-! ### what the law draws -/
section
variable {P : Program} {w : World} {K : PySem.W.Frag} {mg : Str → Option Value} {base : Heap}
def sp_law_well (K : PySem.W.Frag) : Sp := fun vs H Q _ => ∃ (a : Addr) (ns : List Int) (k : Nat), vs = [.ref a, .int k] ∧ SqL K H a (ns.map V.int) ∧ ns.length ≤ 1000 ∧ k ≤ 1000 ∧ ∀ w G H', Ex H G → Wt w 0 G H' → Q (.ref w) H'
theorem ok_law_well (T : Tx K mg) : Ok P w K mg base CX0 1 "_law_well" ["script", "k"] (sp_law_well K) := by
  refine T.d_law_well.ok sc_law_well (fun vs H Q E h => ?_) (fun f cdv A outer s H vs Q E hG hr h => ?_)
  · obtain ⟨a, ns, k, rfl, _⟩ := h
    rfl
  · obtain ⟨a, ns, k, rfl, hS, hl, hk, q⟩ := h
    refine ⟨_, (pss_cons (ps_set (i := 2) sc_law_well.nd rfl (Or.inl rfl) pe_int) (pss_cons (ps_for PassesOwn.never rfl (pi_enumK (K := K) T.b_enumerate (pa_cons (pv 0) pa_nil)) (pg_tup rfl (pgs_cons (pg_name (i := 3) sc_law_well.nd rfl (Or.inl rfl)) (pgs_cons (pg_name (i := 4) sc_law_well.nd rfl (Or.inl rfl)) pgs_nil))) (pss_one (ps_set (i := 2) sc_law_well.nd rfl (Or.inl rfl) (pe_op op_modN (pe_callTy call_int1 (by rfl) T.b_int (by decide +kernel) (pa_cons (pe_op op_add (pe_op op_add (pe_op op_mul (pv 2) pe_int) (pe_op op_mul (pe_callTy call_int1 (by rfl) T.b_int (by decide +kernel) (pa_cons (pv 4) pa_nil)) (pe_op op_add (pe_op op_mul pe_int (pv 3)) pe_int))) pe_int) pa_nil)) (pe_op op_add (pe_op op_pow pe_int pe_int) pe_int))))) (pss_cons (ps_set (i := 4) sc_law_well.nd rfl (Or.inl rfl) (pe_ifExp (pt_cmpR op_lt (pv 1) (pe_callB (call_lenK (K := K)) (by rfl) T.b_len PySem.boot_len (pa_cons (pv 0) pa_nil)) (nomark _)) (pe_ix (ix_listK (K := K)) (pv 0) (pv 1) (fun _ _ => rfl)) (pe_op op_mul (pv 2) (pe_op op_add (pv 1) pe_int)))) (pss_cons (ps_set (i := 5) sc_law_well.nd rfl (Or.inl rfl) (pe_ifExp (pt_cmpR op_lt (pv 1) (pe_callB (call_lenK (K := K)) (by rfl) T.b_len PySem.boot_len (pa_cons (pv 0) pa_nil)) (nomark _)) (pe_callB (call_max2 rfl) (by rfl) T.b_max (by decide +kernel) (pa_cons pe_int (pa_cons (pe_op op_sub (pv 4) (pe_op op_pow pe_int pe_int)) pa_nil))) pe_int)) (pss_one (ps_ret (pe_lst (pa_cons (pv 5) (pa_cons (pe_op op_modN (pe_callTy call_int1 (by rfl) T.b_int (by decide +kernel) (pa_cons (pe_op op_add (pe_op op_add (pv 2) (pe_op op_mul pe_int (pv 1))) (pe_callB call_abs (by rfl) T.b_abs (by decide +kernel) (pa_cons (pv 4) pa_nil))) pa_nil)) (pe_op op_add (pe_op op_pow pe_int pe_int) pe_int)) (pa_cons pe_int pa_nil)))))))))), ?_⟩
    have lmap : (ns.map V.int).length = ns.length := List.length_map ..
    have m27 : (10 : Int) ^ (27 : Int).toNat + 103 ≠ 0 := by decide
    have m30 : (10 : Int) ^ (30 : Int).toNat + 57 ≠ 0 := by decide
    have ten : CPow 10 27 ∧ CPow 10 18 ∧ CPow 10 30 := by refine ⟨⟨?_, ?_, ?_⟩, ⟨?_, ?_, ?_⟩, ⟨?_, ?_, ?_⟩⟩ <;> decide
    refine ⟨_, rfl, a, _, rfl, fo_enum hS (fun i σ H' => ∃ (t : Int) (x3 x4 x5 : Option V), σ = [some (.ref a), some (.int k), some (.int t), x3, x4, x5] ∧ Ex H H') ⟨4099, _, _, _, rfl, Ex.refl _⟩ (fun i σ H' ⟨_, _, _, _, _, e⟩ => e) ?_ ?_⟩
    · rintro i y T σ H1 H2 hi ⟨t, x3, x4, x5, rfl, e⟩ e2 hT
      obtain ⟨n, hn, rfl⟩ : ∃ n, ns[i]? = some n ∧ y = .int n := by
        rw [List.getElem?_map] at hi
        cases hq : ns[i]? with
        | none => rw [hq] at hi; cases hi
        | some n => rw [hq] at hi; exact ⟨n, rfl, (Option.some.inj hi).symm⟩
      have hil : i < ns.length := (List.getElem?_eq_some_iff.mp hn).1
      refine ⟨T, _, rfl, SqT.of hT, rfl, _, _, rfl, _, _, rfl, rfl, ?_⟩
      refine ⟨_, rfl, t, 31, rfl, rfl, .inr ⟨by decide, by decide⟩, _, rfl, .inl ⟨n, rfl, _, rfl, 2, i, rfl, rfl, .inl ⟨by decide, by decide⟩, 2 * i, 5, rfl, rfl, n, 2 * i + 5, rfl, rfl, .inr ⟨by omega, by omega⟩, _, _, rfl, rfl, _, 17, rfl, rfl, .inl ⟨_, rfl, 10, 27, rfl, rfl, ten.1, _, 103, rfl, rfl, _, _, rfl, rfl, m27, ?_⟩⟩⟩
      exact ⟨_, _, _, _, rfl, e.trans e2⟩
    · rintro σ H1 ⟨t, x3, x4, x5, rfl, e⟩
      have hS1 := ex_l e hS
      refine ⟨_, rfl, _, rfl, _, _, rfl, .inl hS1, _, _, rfl, rfl, _, rfl, ?_⟩
      have fin : ∀ (g c : Int) (z : Addr), H1 z = none → Q (.ref z) (upd H1 z (.lst [.int g, .int c, .int 0])) := fun g c z nz => q z H1 _ e ⟨Ex.new nz, nz, g, c, 0, Nat.le_refl _, upd_same⟩
      by_cases hkk : (k : Int) < ((ns.map V.int).length : Int)
      · rw [decide_eq_true hkk]
        rw [lmap] at hkk
        have hkn : k < ns.length := by omega
        refine iteT ⟨_, rfl, _, rfl, _, _, _, _, rfl, rfl, hS1, atI_of (j := k) rfl (get_map hkn), _, rfl, _, rfl, _, _, rfl, .inl hS1, _, _, rfl, rfl, _, rfl, ?_⟩
        rw [decide_eq_true (show (k : Int) < ((ns.map V.int).length : Int) by rw [lmap]; omega)]
        refine iteT ⟨_, rfl, 10, 18, rfl, rfl, ten.2.1, _, _, rfl, rfl, 0, _, rfl, ?_⟩
        refine ⟨_, rfl, _, rfl, _, rfl, 7919, k, rfl, rfl, .inl ⟨by decide, by decide⟩, t, _, rfl, rfl, _, rfl, _, rfl, _, _, rfl, rfl, .inl ⟨_, rfl, 10, 30, rfl, rfl, ten.2.2, _, 57, rfl, rfl, _, _, rfl, rfl, m30, sz_of (by show 3 ≤ 1000000; decide), fun z nz => fin _ _ z nz⟩⟩
      · rw [decide_eq_false hkk]
        refine iteF ⟨_, rfl, _, rfl, k, 3, rfl, rfl, t, _, rfl, rfl, .inr ⟨by omega, by omega⟩, _, rfl, _, rfl, _, _, rfl, .inl hS1, _, _, rfl, rfl, _, rfl, ?_⟩
        rw [decide_eq_false hkk]
        refine iteF ?_
        refine ⟨_, rfl, _, rfl, _, rfl, 7919, k, rfl, rfl, .inl ⟨by decide, by decide⟩, t, _, rfl, rfl, _, rfl, _, rfl, _, _, rfl, rfl, .inl ⟨_, rfl, 10, 30, rfl, rfl, ten.2.2, _, 57, rfl, rfl, _, _, rfl, rfl, m30, sz_of (by show 3 ≤ 1000000; decide), fun z nz => fin _ _ z nz⟩⟩
def sp_law_pick : Sp := fun vs H Q _ => ∃ (w : Addr) (n c : Nat) (G : Hp), vs = [.ref w, .int n] ∧ 1 ≤ n ∧ n ≤ 100000 ∧ c ≤ 1000000 ∧ Wt w c G H ∧ ∀ (i : Nat) H', i < n → Wt w (c + 1) G H' → Q (.int i) H'
theorem nat_mod {i n : Int} (h : 1 ≤ n) : ∃ j : Nat, i.fmod n = (j : Int) ∧ (j : Int) < n := by
  have h1 : 0 ≤ i.fmod n := Int.fmod_nonneg_of_pos _ (by omega)
  have h2 : i.fmod n < n := Int.fmod_lt_of_pos _ (by omega)
  exact ⟨(i.fmod n).toNat, by omega, by omega⟩
theorem q_mod {n : Nat} {H : Hp} {Q : VK} (hn : 1 ≤ n) (q : ∀ j : Nat, j < n → Q (.int j) H) (z : Int) : Q (.int (z.fmod n)) H := by
  obtain ⟨j, hj, hj2⟩ := nat_mod (i := z) (n := n) (by omega)
  rw [hj]
  exact q j (by omega)
theorem ok_law_pick (T : Tx K mg) : Ok P w K mg base CX0 1 "_law_pick" ["well", "ways"] sp_law_pick := by
  refine T.d_law_pick.ok sc_law_pick (fun vs H Q E h => ?_) (fun f cdv A outer s H vs Q E hG hr h => ?_)
  · obtain ⟨w, n, c, G, rfl, _⟩ := h
    rfl
  · obtain ⟨w, n, c, G, rfl, hn, hn2, hc, W, q⟩ := h
    refine ⟨_, (pss_cons (ps_if (pt_cmpR op_gt (pe_ix (ix_listK (K := K)) (pv 0) pe_int (fun _ _ => rfl)) pe_int (nomark _)) (pss_cons (ps_set (i := 2) sc_law_pick.nd rfl (Or.inl rfl) (pe_op op_modN (pe_callTy call_int1 (by rfl) T.b_int (by decide +kernel) (pa_cons (pe_ix (ix_listK (K := K)) (pv 0) pe_int (fun _ _ => rfl)) pa_nil)) (pv 1))) (pss_cons (ps_asg (pe_op op_fdivN (pe_ix (ix_listK (K := K)) (pv 0) pe_int (fun _ _ => rfl)) (pv 1)) (pg_sub (pv 0) pe_int set_list)) (pss_one (ps_ret (pv 2))))) pss_nil) (pss_cons (ps_asg (pe_op op_add (pe_ix (ix_listK (K := K)) (pv 0) pe_int (fun _ _ => rfl)) pe_int) (pg_sub (pv 0) pe_int set_list)) (pss_cons (ps_set (i := 3) sc_law_pick.nd rfl (Or.inl rfl) (pe_op op_modN (pe_callTy call_int1 (by rfl) T.b_int (by decide +kernel) (pa_cons (pe_op op_add (pe_op op_add (pe_ix (ix_listK (K := K)) (pv 0) pe_int (fun _ _ => rfl)) (pe_op op_mul (pe_op op_mul pe_int (pe_ix (ix_listK (K := K)) (pv 0) pe_int (fun _ _ => rfl))) (pe_ix (ix_listK (K := K)) (pv 0) pe_int (fun _ _ => rfl)))) pe_int) pa_nil)) (pe_op op_add (pe_op op_pow pe_int pe_int) pe_int))) (pss_cons (ps_set (i := 3) sc_law_pick.nd rfl (Or.inl rfl) (pe_op op_modN (pe_callTy call_int1 (by rfl) T.b_int (by decide +kernel) (pa_cons (pe_op op_add (pe_op op_mulW (pe_op op_mulW (pv 3) (pv 3)) (pv 3)) (pe_op op_mul pe_int (pe_ix (ix_listK (K := K)) (pv 0) pe_int (fun _ _ => rfl)))) pa_nil)) (pe_op op_add (pe_op op_pow pe_int pe_int) pe_int))) (pss_one (ps_ret (pe_op op_modN (pe_callTy call_int1 (by rfl) T.b_int (by decide +kernel) (pa_cons (pe_op op_fdivN (pv 3) pe_int) pa_nil)) (pv 1)))))))), ?_⟩
    obtain ⟨g, m, k, hk, hw⟩ := W.h
    have n0 : (n : Int) ≠ 0 := by omega
    have ten : CPow 10 29 ∧ CPow 10 30 := by refine ⟨⟨?_, ?_, ?_⟩, ⟨?_, ?_, ?_⟩⟩ <;> decide
    have m29 : (10 : Int) ^ (29 : Int).toNat + 319 ≠ 0 := by decide
    have m30 : (10 : Int) ^ (30 : Int).toNat + 57 ≠ 0 := by decide
    have hS : SqL K H w [.int g, .int m, .int k] := SqL.of hw
    refine ⟨_, rfl, w, _, 0, _, rfl, rfl, hS, atI_of (j := 0) rfl rfl, _, _, rfl, rfl, _, rfl, ?_⟩
    by_cases hg : g > 0
    · rw [decide_eq_true hg]
      refine iteT ⟨_, rfl, w, _, 0, _, rfl, rfl, hS, atI_of (j := 0) rfl rfl, .inl ⟨g, rfl, _, rfl, g, n, rfl, rfl, n0, ?_⟩⟩
      refine ⟨_, rfl, w, _, 0, _, rfl, rfl, hS, atI_of (j := 0) rfl rfl, _, rfl, g, n, rfl, rfl, ⟨n0, by omega⟩, _, rfl, w, _, 0, 0, rfl, rfl, hw, rfl, _, rfl, ?_⟩
      exact q_mod hn (fun j hj => q j _ hj (W.set (by omega))) g
    · rw [decide_eq_false hg]
      refine iteF ?_
      have hS1 : SqL K (upd H w (.lst [.int g, .int m, .int ((k : Int) + 1)])) w [.int g, .int m, .int ((k : Int) + 1)] := SqL.of upd_same
      have W1 : Wt w (c + 1) G (upd H w (.lst [.int g, .int m, .int ((k : Int) + 1)])) := W.set (k := k + 1) (by omega)
      refine ⟨_, rfl, w, _, 2, _, rfl, rfl, hS, atI_of (j := 2) rfl rfl, k, 1, rfl, rfl, _, rfl, w, _, 2, 2, rfl, rfl, hw, rfl, ?_⟩
      refine ⟨_, rfl, w, _, 1, _, rfl, rfl, hS1, atI_of (j := 1) rfl rfl, _, rfl, w, _, 2, _, rfl, rfl, hS1, atI_of (j := 2) rfl rfl, 97531, (k : Int) + 1, rfl, rfl, .inl ⟨by decide, by decide⟩,
        _, rfl, w, _, 2, _, rfl, rfl, hS1, atI_of (j := 2) rfl rfl, _, (k : Int) + 1, rfl, rfl, .inr ⟨by omega, by omega⟩, m, _, rfl, rfl, _, 13, rfl, rfl, .inl ⟨_, rfl, 10, 29, rfl, rfl, ten.1, _, 319, rfl, rfl, _, _, rfl, rfl, m29, ?_⟩⟩
      have hx0 := Int.fmod_nonneg_of_pos (m + 97531 * ((k : Int) + 1) * ((k : Int) + 1) + 13) (show (0 : Int) < 10 ^ (29 : Int).toNat + 319 by decide)
      have hx1 := Int.fmod_lt_of_pos (m + 97531 * ((k : Int) + 1) * ((k : Int) + 1) + 13) (show (0 : Int) < 10 ^ (29 : Int).toNat + 319 by decide)
      have hx : ((m + 97531 * ((k : Int) + 1) * ((k : Int) + 1) + 13).fmod (10 ^ (29 : Int).toNat + 319)).natAbs < 2 ^ 97 := by
        have e : (10 : Int) ^ (29 : Int).toNat + 319 < 2 ^ 97 := by decide
        omega
      have hxx : ((m + 97531 * ((k : Int) + 1) * ((k : Int) + 1) + 13).fmod (10 ^ (29 : Int).toNat + 319) * (m + 97531 * ((k : Int) + 1) * ((k : Int) + 1) + 13).fmod (10 ^ (29 : Int).toNat + 319)).natAbs < 2 ^ 194 := by
        rw [Int.natAbs_mul]
        exact Nat.lt_of_lt_of_le (Nat.mul_lt_mul'' hx hx) (by decide)
      refine ⟨_, rfl, _, rfl, _, _, rfl, rfl, wide_mul hx hx (by decide) (by decide) (by decide), _, rfl, _, _, rfl, rfl, wide_mul hxx hx (by decide) (by decide) (by decide), _, rfl, w, _, 2, _, rfl, rfl, hS1, atI_of (j := 2) rfl rfl, 271, (k : Int) + 1, rfl, rfl, .inl ⟨by decide, by decide⟩, _, _, rfl, rfl,
        .inl ⟨_, rfl, 10, 30, rfl, rfl, ten.2, _, 57, rfl, rfl, _, _, rfl, rfl, m30, ?_⟩⟩
      refine ⟨_, rfl, _, 100003, rfl, rfl, ⟨by decide, by decide⟩, .inl ⟨_, rfl, _, rfl, _, n, rfl, rfl, n0, ?_⟩⟩
      exact q_mod hn (fun j hj => q j _ hj W1) _
end

/-! ### the law's own webs -/
section
variable {P : Program} {w : World} {K : PySem.W.Frag} {mg : Str → Option Value} {base : Heap}
def sp_law_one_of (K : PySem.W.Frag) : Sp := fun vs H Q _ => ∃ (w : Addr) (x : V) (n c : Nat) (G : Hp), vs = [.ref w, x] ∧ 1 ≤ n ∧ n ≤ 100000 ∧ c ≤ 1000000 ∧ Wt w c G H ∧
  ((∃ z : Str, x = .str z ∧ z.length = n ∧ ∀ c0 H', c0 ∈ sg z → Wt w (c + 1) G H' → Q (.str (tx [c0])) H') ∨ (∃ a xs, x = .ref a ∧ Sq K G a xs ∧ xs.length = n ∧ ∀ v H', v ∈ xs → Wt w (c + 1) G H' → Q v H'))
theorem sq_up {G H : Hp} {a : Addr} {xs : List V} (e : Ex G H) (h : Sq K G a xs) : Sq K H a xs := ex_sq e h
theorem ok_law_one_of (T : Tx K mg) : Ok P w K mg base CX0 2 "_law_one_of" ["well", "things"] (sp_law_one_of K) := by
  refine T.d_law_one_of.ok sc_law_one_of (fun vs H Q E h => ?_) (fun f cdv A outer s H vs Q E hG hr h => ?_)
  · obtain ⟨w, x, n, c, G, rfl, _⟩ := h
    rfl
  · obtain ⟨w, x, n, c, G, rfl, hn, hn2, hc, W, q⟩ := h
    refine ⟨_, (pss_one (ps_ret (pe_ix (ix_seqK (K := K)) (pv 1) (pe_callO (ok_law_pick T) hG (hr.mono (by decide)) (pa_cons (pv 0) (pa_cons (pe_callB (call_lenAK (K := K)) (by rfl) T.b_len PySem.boot_len (pa_cons (pv 1) pa_nil)) pa_nil))) (fun _ _ => rfl)))), ?_⟩
    refine ⟨_, rfl, _, rfl, _, rfl, x, n, rfl, ?_, w, n, c, G, rfl, hn, hn2, hc, W, fun i H' hi W' => ?_⟩
    · rcases q with ⟨z, rfl, hz, _⟩ | ⟨a, xs, rfl, hS, hl, _⟩
      · exact ⟨by rw [hz]; exact sz_of (by omega), hz.symm⟩
      · rcases ex_sq W.e hS with h | h
        · exact .inl ⟨xs, h, hl.symm⟩
        · exact .inr ⟨xs, h, hl.symm⟩
    · rcases q with ⟨z, rfl, hz, q⟩ | ⟨a, xs, rfl, hS, hl, q⟩
      · have hi2 : i < (sg z).length := by rw [← len_sg, hz]; exact hi
        exact .inr (.inr ⟨z, i, (sg z)[i], rfl, rfl, by rw [hz]; exact sz_of (by omega), atI_of rfl (List.getElem?_eq_getElem hi2), q _ _ (List.getElem_mem hi2) W'⟩)
      · have hi2 : i < xs.length := by omega
        have hat : atI xs (i : Int) = some xs[i] := atI_of rfl (List.getElem?_eq_getElem hi2)
        rcases ex_sq W'.e hS with h | h
        · exact .inl ⟨a, xs, i, xs[i], rfl, rfl, h, hat, q _ _ (List.getElem_mem hi2) W'⟩
        · exact .inr (.inl ⟨a, xs, i, xs[i], rfl, rfl, h, hat, q _ _ (List.getElem_mem hi2) W'⟩)
def sp_law_without (K : PySem.W.Frag) : Sp := fun vs H Q _ => ∃ (a b : Addr) (ws lot : List Str), vs = [.ref a, .ref b] ∧ Sq K H a (ws.map V.str) ∧ Sq K H b (lot.map V.str) ∧ ws.length ≤ 1000000 ∧ NewL (minus ws lot) H Q
theorem ok_law_without (T : Tx K mg) : Ok P w K mg base CX0 1 "_law_without" ["windows", "lot"] (sp_law_without K) := by
  refine T.d_law_without.ok sc_law_without (fun vs H Q E h => ?_) (fun f cdv A outer s H vs Q E hG hr h => ?_)
  · obtain ⟨a, b, ws, lot, rfl, _⟩ := h
    rfl
  · obtain ⟨a, b, ws, lot, rfl, h1, h2, hl, q⟩ := h
    refine ⟨_, (pss_one (ps_ret (pe_lc (own := [("window", 2)]) (g := gName 2) rfl sc_law_without.nd (pi_seqK (K := K) (pv 0)) (blkOk_by (own := [("window", 2)]) (N := n_law_without) (sc := defScope s_law_without) (by decide +kernel)) (fun _ _ _ _ _ => pg_name (i := 2) sc_law_without.nd rfl (Or.inl rfl)) (fun _ _ _ _ _ => pts_one (pt_cmpR (op_notInK (K := K)) (pv 2) (pv 1) (by rfl))) (fun _ _ _ _ _ => (pv 2))))), ?_⟩
    refine ⟨_, rfl, a, rfl, lcs_sq h1 (fun x => !decide (x ∈ lot)) PyData.str hl (fun _ _ => rfl) (fun z H2 Y Z hz e hy hn => ?_) (fun D np H' acc e hp ha => ?_)⟩
    · refine ⟨rfl, _, rfl, _, rfl, _, _, rfl, ex_sq e h2, rfl, flat_strs _, _, rfl, ?_⟩
      show (fun b H4 => _) (!inV (V.str z) (lot.map V.str)) H2
      rw [inV_strs]
      cases hb : (!decide (z ∈ lot)) with
      | true => exact iteT ⟨_, rfl, hy hb _ _ (Ex.refl _) (.str z)⟩
      | false => exact iteF (hn hb _ (Ex.refl _))
    · have ha := strs_dpa ha
      subst ha
      exact q _ _ e np hp
def sp_law_tally (K : PySem.W.Frag) : Sp := fun vs H Q _ => (∃ (a : Addr) (xs : List Str), vs = [.ref a] ∧ SqL K H a (xs.map V.str) ∧ xs.length ≤ 100000 ∧ ∀ d H', Ex H H' → H d = none → H' d = some (.dK (tkv xs)) → Q (.ref d) H') ∨
  ∃ (z : Str) (xs : List Str), vs = [.str z] ∧ xs = (sg z).map one1 ∧ xs.length ≤ 100000 ∧ ∀ d H', Ex H H' → H d = none → H' d = some (.dK (tkv xs)) → Q (.ref d) H'
theorem ok_law_tally (T : Tx K mg) : Ok P w K mg base CX0 1 "_law_tally" ["steps"] (sp_law_tally K) := by
  refine T.d_law_tally.ok sc_law_tally (fun vs H Q E h => ?_) (fun f cdv A outer s H vs Q E hG hr h => ?_)
  · rcases h with ⟨a, xs, rfl, _⟩ | ⟨z, xs, rfl, _⟩ <;> rfl
  refine ⟨_, (pss_cons (ps_set (i := 1) sc_law_tally.nd rfl (Or.inl rfl) pe_dnewK) (pss_cons (ps_for PassesOwn.never rfl (pi_or (pi_listK (K := K) (pv 0)) (pi_str (pv 0))) (pg_name (i := 2) sc_law_tally.nd rfl (Or.inl rfl)) (pss_one (ps_dput (hu_of hr) (pv 1) (pv 2) (pe_op op_add (pe_get2 (hu_of hr) (pv 1) (pv 2) pe_int) pe_int) rfl))) (pss_one (ps_ret (pv 1))))), ?_⟩
  rcases h with ⟨a, xs, rfl, hS, hl, q⟩ | ⟨zz, xs, rfl, hxs, hl, q⟩
  · intro d nd
    refine .inl ⟨_, rfl, a, rfl, ⟨_, ex_l (Ex.new nd) hS⟩, for_src (Hb := H) (src_list hS) (fun i σ H' => ∃ x2, σ = [some (.ref a), some (.ref d), x2] ∧ Ex H H' ∧ H' d = some (.dK (tkv (xs.take i)))) ⟨none, rfl, Ex.new nd, upd_same⟩ (fun i σ H' ⟨_, _, e, _⟩ => e) ?_ ?_⟩
    · rintro i x σ H0 H' hi ⟨x2, rfl, e, hd⟩ e0 it
      obtain ⟨z, hz, rfl⟩ := str_at it
      have hil : i < xs.length := (List.getElem?_eq_some_iff.mp hz).1
      have kl : (tkv (xs.take i)).length ≤ 100000 := by
        unfold tkv
        rw [fkv_len]
        have := ded_le (xs.take i)
        rw [List.length_take] at this
        omega
      have e := e.trans e0
      have hd := e0 _ _ hd
      refine ⟨_, rfl, d, rfl, .inl ⟨_, .inl hd⟩, _, rfl, _, DGet.k (k := kS z) hd, ?_⟩
      rw [tkv_get]
      refine ⟨_, 1, rfl, rfl, _, rfl, _, rfl, d, _, rfl, DPut.k (k := kS z) hd (sz_lt (by omega)), ?_⟩
      refine ⟨_, rfl, Ex.mut e nd, ?_⟩
      show upd H' d (.dK (putK (tkv (xs.take i)) (kS z) (.int ((cnt (xs.take i) z : Int) + 1)))) d = _
      rw [upd_same, tkv_snoc, take_snoc hz]
    · rintro σ H' ⟨x2, rfl, e, hd⟩
      rw [List.length_map, take_len] at hd
      exact ⟨_, rfl, q d H' e nd hd⟩
  · intro d nd
    have zl : zz.cps.size = xs.length := by
      rw [hxs, List.length_map]
      rfl
    refine .inr ⟨_, rfl, zz, rfl, for_src (Hb := H) (src_str (x := zz)) (fun i σ H' => ∃ x2, σ = [some (.str zz), some (.ref d), x2] ∧ Ex H H' ∧ H' d = some (.dK (tkv (xs.take i)))) ⟨none, rfl, Ex.new nd, upd_same⟩ (fun i σ H' ⟨_, _, e, _⟩ => e) ?_ ?_⟩
    · rintro i x σ H0 H' hi ⟨x2, rfl, e, hd⟩ e0 it
      obtain ⟨z, hz, rfl⟩ := (show ∃ z, xs[i]? = some z ∧ x = .str z by
        obtain ⟨ch, hc, rfl⟩ := it
        refine ⟨one1 ch, ?_, rfl⟩
        rw [hxs, List.getElem?_map, show (sg zz)[i]? = some ch by rw [← hc]; exact Array.getElem?_toList]
        rfl)
      have hil : i < xs.length := (List.getElem?_eq_some_iff.mp hz).1
      have kl : (tkv (xs.take i)).length ≤ 100000 := by
        unfold tkv
        rw [fkv_len]
        have := ded_le (xs.take i)
        rw [List.length_take] at this
        omega
      have e := e.trans e0
      have hd := e0 _ _ hd
      refine ⟨_, rfl, d, rfl, .inl ⟨_, .inl hd⟩, _, rfl, _, DGet.k (k := kS z) hd, ?_⟩
      rw [tkv_get]
      refine ⟨_, 1, rfl, rfl, _, rfl, _, rfl, d, _, rfl, DPut.k (k := kS z) hd (sz_lt (by omega)), ?_⟩
      refine ⟨_, rfl, Ex.mut e nd, ?_⟩
      show upd H' d (.dK (putK (tkv (xs.take i)) (kS z) (.int ((cnt (xs.take i) z : Int) + 1)))) d = _
      rw [upd_same, tkv_snoc, take_snoc hz]
    · rintro σ H' ⟨x2, rfl, e, hd⟩
      rw [zl, take_len] at hd
      exact ⟨_, rfl, q d H' e nd hd⟩
def sp_law_round (K : PySem.W.Frag) : Sp := fun vs H Q _ => ∃ (n : Nat) (r : Str), vs = [.int n, .str r] ∧ 1 ≤ r.length ∧ r.length ≤ 100000 ∧ n ≤ 1000 ∧ NewL (rnd n r) H Q
theorem ok_law_round (T : Tx K mg) : Ok P w K mg base CX0 1 "_law_round" ["size", "ring"] (sp_law_round K) := by
  refine T.d_law_round.ok sc_law_round (fun vs H Q E h => ?_) (fun f cdv A outer s H vs Q E hG hr h => ?_)
  · obtain ⟨n, r, rfl, _⟩ := h
    rfl
  · obtain ⟨n, r, rfl, h1, h2, hn, q⟩ := h
    refine ⟨_, (pss_cons (ps_set (i := 2) sc_law_round.nd rfl (Or.inr rfl) (pv 1)) (pss_cons (ps_while PassesOwn.never (pt_cmpR op_lt (pe_callB call_len_str (by rfl) T.b_len PySem.boot_len (pa_cons (pv 2) pa_nil)) (pe_op op_add (pe_callB call_len_str (by rfl) T.b_len PySem.boot_len (pa_cons (pv 1) pa_nil)) (pv 0)) (nomark _)) (pss_one (ps_set (i := 2) sc_law_round.nd rfl (Or.inr rfl) (pe_op op_add_str (pv 2) (pv 1))))) (pss_one (ps_ret (pe_lc (own := [("at", 3)]) (g := gName 3) (tt := tYes) rfl sc_law_round.nd (pi_range1 (by rfl) T.b_range (pa_cons (pe_callB call_len_str (by rfl) T.b_len PySem.boot_len (pa_cons (pv 1) pa_nil)) pa_nil)) (blkOk_by (own := [("at", 3)]) (N := n_law_round) (sc := defScope s_law_round) (by decide +kernel)) (fun _ _ _ _ _ => pg_name (i := 3) sc_law_round.nd rfl (Or.inl rfl)) (fun _ _ _ _ _ => pts_nil) (fun _ _ _ _ _ => (pe_slice sl_str (pv 2) (po_some (pv 3)) (po_some (pe_op op_add (pv 3) (pv 0)))))))))), ?_⟩
    have big : 1000000 < sizeLine := by decide
    refine ⟨_, rfl, ?_⟩
    refine ⟨fun m σ H' => H' = H ∧ ∃ L k, σ = [some (.int n), some (.str r), some (.str L), none] ∧ sg L = rep k (sg r) ∧ L.length ≤ r.length + n + r.length ∧ m = r.length + n - L.length, ⟨_, rfl, r, 1, rfl, by unfold rep; simp, by omega, rfl⟩, ?_⟩
    rintro m σ H' ⟨rfl, L, k, rfl, hL, hb, rfl⟩
    have hk : L.length = k * r.length := by
      rw [len_sg, hL, rep_len]
      rfl
    refine ⟨_, rfl, L, rfl, by omega, _, rfl, r, rfl, by omega, _, rfl, _, _, rfl, rfl, _, _, rfl, rfl, _, rfl, ?_⟩
    by_cases hlt : (L.length : Int) < (r.length : Int) + (n : Int)
    · rw [decide_eq_true hlt]
      refine iteT ⟨fun σ' H'' => H'' = H' ∧ ∃ L' k', σ' = [some (.int n), some (.str r), some (.str L'), none] ∧ sg L' = rep k' (sg r) ∧ L'.length ≤ r.length + n + r.length ∧ r.length + n - L'.length < r.length + n - L.length, fun σ' H'' ⟨e, L', k', e1, e2, e3, e4⟩ => ⟨_, e4, e, L', k', e1, e2, e3, rfl⟩, ?_⟩
      have la := strLen_app L r
      refine ⟨_, rfl, _, rfl, _, _, rfl, rfl, by omega, rfl, L ++ r, k + 1, rfl, ?_, by omega, by omega⟩
      rw [sg_app, hL, rep_snoc]
    · rw [decide_eq_false hlt]
      refine iteF ?_
      have hcap : r.length + n ≤ k * r.length := by omega
      refine ⟨_, rfl, r, rfl, by omega, _, rfl, by omega, by omega, fun D np => ?_⟩
      refine lc_rng K (fun _ => true) (fun i => .str (tx (cyc (sg r) i n))) np (by omega) (fun _ _ => rfl) (fun i x H2 Y Z hi e it hy _ => ?_) (fun H2 acc e hp hd => ?_)
      · subst it
        have hi2 : i < r.length := by omega
        refine ⟨rfl, lc_yes ?_⟩
        have cut : cutS L (some (i : Int)) (some ((i + n : Nat) : Int)) = tx (cyc (sg r) i n) := by
          rw [cut_at _ _ _ (by omega), hL, Nat.min_eq_left (by omega), show i + n - i = n by omega, rep_cut (by show i + n ≤ k * r.length; omega)]
        have z : rSlS (.str L) (some (0 + (i : Int))) (some (0 + (i : Int) + (n : Int))) H2 Y := by
          refine ⟨L, rfl, by omega, ?_⟩
          rw [show (0 : Int) + (i : Int) + (n : Int) = ((i + n : Nat) : Int) by omega, show (0 : Int) + (i : Int) = (i : Int) by omega, cut]
          exact hy rfl _ _ (Ex.refl _) (.str _)
        exact ⟨_, rfl, _, rfl, _, rfl, _, rfl, _, rfl, _, _, rfl, rfl, _, rfl, z⟩
      · rw [givenD_all] at hd
        rw [Int.toNat_natCast] at hd
        have hs : acc = (rnd n r).map V.str := strs_dpa (by
          unfold rnd
          rw [List.map_map]
          exact hd)
        subst hs
        exact q _ _ e np hp
/-- the webs by where windows lead -/
def sp_law_ways_out (K : PySem.W.Frag) : Sp := fun vs H Q _ => ∃ (a : Addr) (ws : List Str), vs = [.ref a] ∧ Sq K H a (ws.map V.str) ∧ Ws ws ∧ ∀ d H', Ex H H' → H d = none → Wd H' d (ded (plcs ws)) (grp begS endS ws) → Q (.ref d) H'
theorem ok_law_ways_out (T : Tx K mg) : Ok P w K mg base CX0 1 "_law_ways_out" ["windows"] (sp_law_ways_out K) := by
  refine T.d_law_ways_out.ok sc_law_ways_out (fun vs H Q E h => ?_) (fun f cdv A outer s H vs Q E hG hr h => ?_)
  · obtain ⟨a, ws, rfl, _⟩ := h
    rfl
  · obtain ⟨a, ws, rfl, hS, hw, q⟩ := h
    refine ⟨_, (pss_cons (ps_set (i := 1) sc_law_ways_out.nd rfl (Or.inl rfl) pe_dnewK) (pss_cons (ps_for PassesOwn.never rfl (pi_seqK (K := K) (pv 0)) (pg_name (i := 2) sc_law_ways_out.nd rfl (Or.inl rfl)) (pss_cons (ps_for PassesOwn.never rfl (pi_listK (K := K) (pe_lst (pa_cons (pe_slice sl_str (pv 2) po_none (po_some (pe_un un_neg pe_int))) (pa_cons (pe_slice sl_str (pv 2) (po_some pe_int) po_none) pa_nil)))) (pg_name (i := 3) sc_law_ways_out.nd rfl (Or.inl rfl)) (pss_one (ps_if (pt_cmp (pc_dnotin (hu_of hr) (pv 3) (pv 1))) (pss_one (ps_dput (hu_of hr) (pv 1) (pv 3) (pe_lst pa_nil) rfl)) pss_nil))) (pss_cons (ps_set (i := 4) sc_law_ways_out.nd rfl (Or.inl rfl) (pe_dget (hu_of hr) (pv 1) (pe_slice sl_str (pv 2) po_none (po_some (pe_un un_neg pe_int))) (fun _ _ => rfl))) (pss_one (ps_expr (pe_bmK (K := K) PySem.F.plainAttrs_list PySem.F.slot_list_append PySem.F.type_list_append mt_append (pv 4) (pa_cons (pe_slice sl_str (pv 2) (po_some pe_int) po_none) pa_nil))))))) (pss_one (ps_ret (pv 1))))), ?_⟩
    have few := hw.few
    intro d nd
    refine ⟨_, rfl, a, rfl, fo_sq hS (fun i σ H' => ∃ rs x2 x3 x4, σ = [some (.ref a), some (.ref d), x2, x3, x4] ∧ Wb H H' d (ded (plcs (ws.take i))) (grp begS endS (ws.take i)) rs)
      ⟨fun _ => 0, none, none, none, rfl, Wb.start nd⟩ (fun i σ H' ⟨_, _, _, _, _, W⟩ => W.e) ?_ ?_⟩
    · rintro i x σ H' hi ⟨rs, x2, x3, x4, rfl, W⟩
      obtain ⟨z, hz, rfl⟩ := str_at hi
      have zl := (hw.wd z (List.mem_of_getElem? hz)).2
      have zb : z.length ≤ 1000000 := by omega
      have hil : i < ws.length := (List.getElem?_eq_some_iff.mp hz).1
      have kl : (ded (plcs (ws.take i))).length ≤ 2000 := by
        have := ded_le (plcs (ws.take i))
        rw [plcs_len, List.length_take] at this
        omega
      refine ⟨_, rfl, 1, rfl, _, rfl, z, rfl, sz_of zb, ?_⟩
      rw [show cutS z none (some (-1)) = begS z from cut_beg z]
      refine ⟨_, rfl, 1, rfl, z, rfl, sz_of zb, ?_⟩
      rw [cut_end]
      refine ⟨sz_of (by show 2 ≤ 1000000; decide), fun p np => ⟨p, rfl, ?_⟩⟩
      have new0 : ∀ k, k ∉ ded (plcs (ws.take i)) → grp begS endS (ws.take i) k = [] := fun k hk => grp_new fun q => hk (ded_mem.mpr q)
      have Hp0 : H p = none := fresh_back W.e np
      refine fo_lst (Hb := upd H p (.lst [.str (begS z), .str (endS z)])) (xs := [.str (begS z), .str (endS z)]) (SqL.of upd_same) (fun j σ H'' => ∃ rs x3, σ = [some (.ref a), some (.ref d), some (.str z), x3, x4] ∧ Wb (upd H p (.lst [.str (begS z), .str (endS z)])) H'' d (([begS z, endS z].take j).foldl addS (ded (plcs (ws.take i)))) (grp begS endS (ws.take i)) rs) ?_ ?_ ?_ ?_
      · exact ⟨rs, x3, rfl, W.up np⟩
      · exact fun j σ H'' ⟨_, _, _, W⟩ => W.e
      · rintro j x σ H'' hj ⟨rs, x3, rfl, W⟩
        obtain ⟨k, hk, rfl⟩ := str_at (ws := [begS z, endS z]) hj
        have ek : ([begS z, endS z].take (j + 1)).foldl addS (ded (plcs (ws.take i))) = addS (([begS z, endS z].take j).foldl addS (ded (plcs (ws.take i)))) k := by
          rw [take_snoc hk, List.foldl_append]
          rfl
        rw [ek]
        have hsub : ∀ y ∈ ded (plcs (ws.take i)), y ∈ ([begS z, endS z].take j).foldl addS (ded (plcs (ws.take i))) := fun y hy => foldl_addS_mem.mpr (.inl hy)
        have hlen : (([begS z, endS z].take j).foldl addS (ded (plcs (ws.take i)))).length ≤ 2002 := by
          have := nodup_len W.nk (l := ded (plcs (ws.take i)) ++ [begS z, endS z]) fun y hy => (foldl_addS_mem.mp hy).elim (fun q => List.mem_append_left _ q) fun q => List.mem_append_right _ (List.mem_of_mem_take q)
          rw [List.length_append] at this
          have e2 : [begS z, endS z].length = 2 := rfl
          omega
        generalize hks : ([begS z, endS z].take j).foldl addS (ded (plcs (ws.take i))) = ks at W hsub hlen
        refine ⟨_, rfl, _, rfl, d, _, rfl, DGet.k (k := kS k) W.hd, _, rfl, ?_⟩
        by_cases hkk : k ∈ ks
        · rw [show (!(valV (wkv rs ks) (kS k)).isSome) = false by rw [wkv_in, decide_eq_true hkk]; rfl]
          refine iteF ⟨rs, some (.str k), rfl, ?_⟩
          rw [addS, if_pos hkk]
          exact W
        · rw [show (!(valV (wkv rs ks) (kS k)).isSome) = true by rw [wkv_in, decide_eq_false hkk]; rfl]
          refine iteT ⟨sz_of (by show 0 ≤ 1000000; decide), fun p2 np2 => ⟨_, rfl, _, rfl, d, _, rfl, DPut.k (k := kS k) ((Ex.new np2) _ _ W.hd) (sz_lt (by rw [wkv_len]; omega)), fun y => if y = k then p2 else rs y, some (.str k), rfl, ?_⟩⟩
          rw [addS, if_neg hkk]
          exact W.put hkk np2 (new0 k fun q => hkk (hsub k q))
      · rintro σ H'' ⟨rs, x3, rfl, W⟩
        have W := W.down Hp0
        rw [show ([begS z, endS z].take [V.str (begS z), V.str (endS z)].length).foldl addS (ded (plcs (ws.take i))) = ded (plcs (ws.take (i + 1))) by rw [ded_plcs hz]; rfl] at W
        have hbk : begS z ∈ ded (plcs (ws.take (i + 1))) := ded_mem.mpr (beg_mem (by rw [take_snoc hz]; exact List.mem_append_right _ (List.mem_singleton.mpr rfl)))
        obtain ⟨r1, r2⟩ := W.row _ hbk
        refine ⟨_, rfl, _, rfl, 1, rfl, _, rfl, z, rfl, sz_of zb, ?_⟩
        rw [show cutS z none (some (-1)) = begS z from cut_beg z]
        refine ⟨d, .ref (rs (begS z)), rfl, ?_, ?_⟩
        · rw [← wkv_val (rs := rs) hbk]
          exact DGet.k (k := kS (begS z)) W.hd
        · refine ⟨_, rfl, .inl ⟨rfl, _, SqL.of r2⟩, _, rfl, 1, rfl, z, rfl, sz_of zb, ?_⟩
          rw [cut_end]
          refine ⟨_, _, _, rfl, rfl, r2, ?_, rs, _, _, _, rfl, ?_⟩
          · rw [List.length_map]
            have := grp_len begS endS (ws.take i) (begS z)
            rw [List.length_take] at this
            exact sz_lt (by omega)
          · refine (W.app hbk).as fun k _ => ?_
            rw [take_snoc hz, grp_snoc]
    · rintro σ H' ⟨rs, x2, x3, x4, rfl, W⟩
      rw [List.length_map, take_len] at W
      exact ⟨_, rfl, q _ _ W.e nd W.wd⟩
def sp_law_come_to : Sp := fun vs H Q _ => ∃ (D : Addr) (ws : List Str) (p : Str), vs = [.ref D, .str p] ∧ Wr H D (ded (plcs ws)) (grp begS endS ws) ∧ Ws ws ∧ p ∈ plcs ws ∧
  ∀ d H' ks, Ex H H' → H d = none → ks.Nodup → (∀ q, q ∈ ks ↔ Rch (nxts ws) p q) → H' d = some (.dK (trues ks)) → Q (.ref d) H'
theorem ok_law_come_to (T : Tx K mg) : Ok P w K mg base CX0 1 "_law_come_to" ["ways", "start"] sp_law_come_to := by
  refine T.d_law_come_to.ok sc_law_come_to (fun vs H Q E h => ?_) (fun f cdv A outer s H1 vs Q E hG hr h => ?_)
  · obtain ⟨D, ws, p, rfl, _⟩ := h
    rfl
  · obtain ⟨D, ws, p, rfl, wD, hw, hp, q⟩ := h
    refine ⟨_, (pss_cons (ps_par (i := 2) (j := 3) rfl sc_law_come_to.nd rfl rfl (by decide) rfl rfl (pa_cons (pe_disp (pps_cons (pv 1) pe_bl pps_nil) (by rfl) (by rfl) (fun z => by cases z) (by decide)) (pa_cons (pe_lst (pa_cons (pv 1) pa_nil)) pa_nil)) (by rfl)) (pss_cons (ps_while PassesOwn.never (pt_cmpR (op_neDK (K := K) hr.units) (pv 3) (pe_lst pa_nil) (nomark _)) (pss_one (ps_for PassesOwn.never rfl (pi_listK (K := K) (pe_dget (hu_of hr) (pv 0) (pe_bm0K (K := K) PySem.F.plainAttrs_list PySem.F.slot_list_pop PySem.F.type_list_pop mt_pop (pv 3)) (fun _ _ => rfl))) (pg_name (i := 4) sc_law_come_to.nd rfl (Or.inl rfl)) (pss_one (ps_if (pt_cmp (pc_dnotin (hu_of hr) (pv 4) (pv 2))) (pss_cons (ps_dput (hu_of hr) (pv 2) (pv 4) pe_bl rfl) (pss_one (ps_expr (pe_bmK (K := K) PySem.F.plainAttrs_list PySem.F.slot_list_append PySem.F.type_list_append mt_append (pv 3) (pa_cons (pv 4) pa_nil))))) pss_nil))))) (pss_one (ps_ret (pv 2))))), ?_⟩
    have few := hw.few
    refine fun F nF => ⟨_, rfl, upd_same, [(kS p, .bl true)], rfl, by show 1 ≤ 15; decide, _, rfl, sz_of (by show 1 ≤ 1000000; decide), fun W nW => ⟨_, _, rfl, ?_⟩⟩
    have FW : F ≠ W := ne_of_none upd_same nW
    have nW1 : H1 W = none := by
      rw [upd_upd, upd_ne FW.symm] at nW
      exact nW
    have fl0 : Fl ws p H1 (upd (upd (upd H1 F (.dK [])) F (.dK (mergeK [] [(kS p, .bl true)]))) W (.lst [.str p])) F W (fun _ => False) [p] [p] := by
      rw [upd_upd]
      exact ⟨Ex.mut (Ex.new nF) nW1, nF, nW1, by rw [upd_ne FW, upd_same]; rfl, by rw [upd_same]; rfl, .start, nodup_one p⟩
    refine ⟨fun m σ H' => ∃ x5 ks wl, σ = [some (.ref D), some (.str p), some (.ref F), some (.ref W), x5] ∧ m = flm ws ks wl ∧ Fl ws p H1 H' F W (fun _ => False) ks wl, ⟨_, _, _, _, rfl, rfl, fl0⟩, ?_⟩
    rintro m σ H' ⟨x5, ks, wl, rfl, rfl, fl⟩
    have wlw : ∀ z ∈ wl, Word z := fun z hz => (hw.plc (rch_plc hp (fl.S.rch z (fl.S.sub z hz)))).1
    refine ⟨_, rfl, sz_of (by show 0 ≤ 1000000; decide), fun np nnp => ⟨strsL wl, .list [], dpL (SqL.of ((Ex.new nnp) _ _ fl.hW)), .lst (SqL.of upd_same) .nil, shapedL wlw, rfl, _, rfl, ?_⟩⟩
    have fl := fl.ex (Ex.new (o := .lst []) nnp)
    rcases snoc_cases wl with rfl | ⟨wl', pp, rfl⟩
    · exact iteF ⟨_, rfl, q _ _ _ fl.e fl.f fl.S.nd fl.S.done fl.hF⟩
    · rw [ne_nilS]
      refine iteT ⟨fun σ' H' => ∃ x5 ks' wl2, σ' = [some (.ref D), some (.str p), some (.ref F), some (.ref W), x5] ∧ flm ws ks' wl2 < flm ws ks (wl' ++ [pp]) ∧ Fl ws p H1 H' F W (fun _ => False) ks' wl2,
        fun σ' H' ⟨x5, ks', wl2, e, l, f⟩ => ⟨_, l, x5, ks', wl2, e, rfl, f⟩, ?_⟩
      have ppk : pp ∈ ks := fl.S.sub _ (List.mem_append_right _ (List.mem_singleton.mpr rfl))
      have ppp : pp ∈ plcs ws := rch_plc hp (fl.S.rch pp ppk)
      obtain ⟨r, g1, g2⟩ := wD.get (ded_mem.mpr ppp)
      refine ⟨_, rfl, _, rfl, .inl ⟨rfl, _, SqL.of fl.hW⟩, _, _, .str pp, rfl, rfl, fl.hW, last_at, ?_⟩
      rw [drop_last]
      have fl := fl.pop
      have ksl := srch_len hp fl.S
      refine ⟨D, .ref r, rfl, g1 _ fl.e, r, rfl, fo_lst (SqL.of g2) (fun j σ H'' => ∃ x5 ks' wl2, σ = [some (.ref D), some (.str p), some (.ref F), some (.ref W), x5] ∧ Fl ws p H1 H'' F W (fun z => z = pp) ks' wl2 ∧ flm ws ks' wl2 < flm ws ks (wl' ++ [pp]) ∧ pp ∈ ks' ∧ ∀ x ∈ (nxts ws pp).take j, x ∈ ks')
        ⟨x5, ks, wl', rfl, fl, ?_, ppk, fun x hx => (List.not_mem_nil hx).elim⟩ (fun j σ H'' ⟨_, _, _, _, f, _⟩ => f.e) ?_ ?_⟩
      · unfold flm
        rw [List.length_append]
        have : [pp].length = 1 := rfl
        omega
      · rintro j x σ H'' hj ⟨x5, ks', wl2, rfl, fl, lt, hpp, hin⟩
        obtain ⟨z, hz, rfl⟩ := str_at (ws := nxts ws pp) hj
        have znx : z ∈ nxts ws pp := List.mem_of_getElem? hz
        have ksl := srch_len hp fl.S
        refine ⟨_, rfl, _, rfl, F, _, rfl, DGet.k (k := kS z) fl.hF, _, rfl, ?_⟩
        by_cases hk : z ∈ ks'
        · rw [show (!(valV (trues ks') (kS z)).isSome) = false by rw [trues_in, decide_eq_true hk]; rfl]
          refine iteF ⟨_, ks', wl2, rfl, fl, lt, hpp, fun y hy => ?_⟩
          rw [take_snoc hz] at hy
          rcases List.mem_append.mp hy with hy | hy
          · exact hin y hy
          · rw [List.mem_singleton.mp hy]
            exact hk
        · rw [show (!(valV (trues ks') (kS z)).isSome) = true by rw [trues_in, decide_eq_false hk]; rfl]
          have fl2 := fl.put hpp znx hk
          have ksl2 := srch_len hp fl2.S
          have wll : wl2.length ≤ 4000 := by
            have h1 := nodup_len fl.n fl.S.sub
            omega
          refine iteT ⟨_, rfl, _, rfl, F, _, rfl, DPut.k (k := kS z) fl.hF (sz_lt (by rw [trues_len]; omega)), ?_⟩
          have hW2 : (upd H'' F (.dK (putK (trues ks') (kS z) (.bl true)))) W = some (.lst (wl2.map V.str)) := by
            rw [upd_ne fl.ne.symm]
            exact fl.hW
          refine ⟨_, rfl, .inl ⟨rfl, _, SqL.of hW2⟩, _, rfl, _, _, _, rfl, rfl, hW2, sz_lt (by rw [List.length_map]; omega), some (.str z), ks' ++ [z], wl2 ++ [z], rfl, fl2, ?_, List.mem_append_left _ hpp, fun y hy => ?_⟩
          · have e : flm ws (ks' ++ [z]) (wl2 ++ [z]) < flm ws ks' wl2 := by
              unfold flm
              rw [List.length_append, List.length_append] at *
              have : [z].length = 1 := rfl
              omega
            omega
          · rw [take_snoc hz] at hy
            rcases List.mem_append.mp hy with hy | hy
            · exact List.mem_append_left _ (hin y hy)
            · rw [List.mem_singleton.mp hy]
              exact List.mem_append_right _ (List.mem_singleton.mpr rfl)
      · rintro σ H'' ⟨x5, ks', wl2, rfl, fl, lt, hpp, hin⟩
        refine ⟨x5, ks', wl2, rfl, lt, fl.shut fun r hr => ?_⟩
        refine hin r ?_
        have hh : ((grp begS endS ws pp).map V.str).length = (nxts ws pp).length := List.length_map ..
        rw [hh, List.take_length]
        exact hr
end

/-! ### what hangs together -/
section
variable {P : Program} {w : World} {K : PySem.W.Frag} {mg : Str → Option Value} {base : Heap}
theorem Ws.revs {ws : List Str} (h : Ws ws) : Ws (revs ws) := ⟨fun x hx => by
  obtain ⟨y, hy, rfl⟩ := List.mem_map.mp hx
  exact ⟨word_rev (h.wd y hy).1, by rw [rev_len]; exact (h.wd y hy).2⟩, by rw [List.length_map]; exact h.few⟩
def sp_law_hangs (K : PySem.W.Frag) : Sp := fun vs H Q _ => ∃ (a : Addr) (ws : List Str), vs = [.ref a] ∧ Sq K H a (ws.map V.str) ∧ Ws ws ∧ RetD K (.bool (scB ws)) H Q
theorem ok_law_hangs (T : Tx K mg) : Ok P w K mg base CX0 2 "_law_hangs" ["windows"] (sp_law_hangs K) := by
  refine T.d_law_hangs.ok sc_law_hangs (fun vs H Q E h => ?_) (fun f cdv A outer s H vs Q E hG hr h => ?_)
  · obtain ⟨a, ws, rfl, _⟩ := h
    rfl
  · obtain ⟨a, ws, rfl, hS, hw, q⟩ := h
    refine ⟨_, (pss_cons (ps_if (pt_cmpR op_eq (pe_callB (call_lenK (K := K)) (by rfl) T.b_len PySem.boot_len (pa_cons (pv 0) pa_nil)) pe_int (nomark _)) (pss_one (ps_ret pe_bl)) pss_nil) (pss_cons (ps_par (i := 1) (j := 2) rfl sc_law_hangs.nd rfl rfl (by decide) rfl rfl (pa_cons (pe_callO (ok_law_ways_out T) hG (hr.mono (by decide)) (pa_cons (pv 0) pa_nil)) (pa_cons (pe_callO (ok_law_ways_out T) hG (hr.mono (by decide)) (pa_cons (pe_lc (own := [("window", 4)]) (g := gName 4) (tt := tYes) rfl sc_law_hangs.nd (pi_seqK (K := K) (pv 0)) (blkOk_by (own := [("window", 4)]) (N := n_law_hangs) (sc := defScope s_law_hangs) (by decide +kernel)) (fun _ _ _ _ _ => pg_name (i := 4) sc_law_hangs.nd rfl (Or.inl rfl)) (fun _ _ _ _ _ => pts_nil) (fun _ _ _ _ _ => (pe_revS (pv 4)))) pa_nil)) pa_nil)) (by rfl)) (pss_cons (ps_set (i := 3) sc_law_hangs.nd rfl (Or.inl rfl) (pe_slice sl_str (pe_ix (ix_seqK (K := K)) (pv 0) pe_int (fun _ _ => rfl)) (po_some pe_int) po_none)) (pss_one (ps_ret (pe_chain op_eq op_eq (pe_callB call_lenD (by rfl) T.b_len PySem.boot_len (pa_cons (pe_callO (ok_law_come_to T) hG (hr.mono (by decide)) (pa_cons (pv 1) (pa_cons (pv 3) pa_nil))) pa_nil)) (pe_callB call_lenD (by rfl) T.b_len PySem.boot_len (pa_cons (pv 1) pa_nil)) (pe_callB call_lenD (by rfl) T.b_len PySem.boot_len (pa_cons (pe_callO (ok_law_come_to T) hG (hr.mono (by decide)) (pa_cons (pv 2) (pa_cons (pe_revS (pv 3)) pa_nil))) pa_nil)))))))), ?_⟩
    have few := hw.few
    refine ⟨_, rfl, a, _, rfl, hS, rfl, _, rfl, ?_⟩
    cases ws with
    | nil =>
      refine iteT (q _ _ (Ex.refl _) ?_)
      rw [scB_minus_nil rfl]
      exact .bl false
    | cons w0 ws0 =>
      refine iteF ?_
      generalize hws : w0 :: ws0 = ws at *
      have h0 : ws[0]? = some w0 := by rw [← hws]; rfl
      have w0m : w0 ∈ ws := List.mem_of_getElem? h0
      have hp : endS w0 ∈ plcs ws := end_mem w0m
      have w0l := (hw.wd w0 w0m).2
      refine ⟨_, rfl, a, ws, rfl, hS, hw, fun d H1 e1 nd wD => ⟨_, rfl, a, rfl, ?_⟩⟩
      refine lcs_sq (ex_sq e1 hS) (fun _ => true) (fun x => PyData.str (revS x)) (by omega) (fun _ _ => rfl) (fun z H2 Y Z hz e hy hn => ?_) (fun D np H2 acc e hp2 ha => ?_)
      · have zl := (hw.wd z hz).2
        exact ⟨rfl, lc_yes ⟨_, rfl, z, rfl, sz_of (by omega), hy rfl _ _ (Ex.refl _) (.str _)⟩⟩
      · rw [filter_true] at ha
        have ha : acc = (revs ws).map V.str := strs_dpa (by rw [List.map_map]; exact ha)
        subst ha
        refine ⟨D, revs ws, rfl, .inl (SqL.of hp2), hw.revs, fun d2 H3 e3 nd2 wD2 => ?_⟩
        have e13 := e.trans e3
        have atA : ∀ {Hx : Hp} {Y : VK}, Ex H1 Hx → Y (.str w0) Hx → rIx K (.ref a) (.int 0) Hx Y := fun {Hx Y} ex y => by
          have hat : atI (ws.map V.str) 0 = some (.str w0) := atI_of (j := 0) rfl (by rw [List.getElem?_map, h0]; rfl)
          rcases ex_sq (e1.trans ex) hS with h | h
          · exact .inl ⟨a, _, 0, _, rfl, rfl, h, hat, y⟩
          · exact .inr (.inl ⟨a, _, 0, _, rfl, rfl, h, hat, y⟩)
        refine ⟨_, _, rfl, _, rfl, atA e13 ⟨1, rfl, w0, rfl, sz_of (by omega), ?_⟩⟩
        rw [cut_end]
        refine ⟨_, rfl, _, rfl, d, ws, endS w0, rfl, (wD.ex e13).wr, hw, hp, fun r H4 ks e4 _ nks mks hr4 => ?_⟩
        obtain ⟨rs, wd1, _⟩ := wD.ex (e13.trans e4)
        refine ⟨r, _, rfl, hr4, _, rfl, d, _, rfl, wd1, rfl, _, rfl, ?_⟩
        rw [trues_len, wkv_len]
        have ex4 : Ex H H4 := (e1.trans e13).trans e4
        by_cases hk : ks.length = (ded (plcs ws)).length
        · rw [decide_eq_true (show V.int (ks.length : Int) = V.int ((ded (plcs ws)).length : Int) by rw [hk])]
          refine iteT ⟨_, rfl, _, rfl, _, rfl, sz_of (by rw [len_end]; omega), d2, revs ws, revS (endS w0), rfl, (wD2.ex e4).wr, hw.revs, plcs_revs.mpr hp, fun r2 H5 rks e5 _ nrk mrk hr5 => ⟨r2, _, rfl, hr5, rfl, ?_⟩⟩
          rw [trues_len]
          refine q _ _ (ex4.trans e5) ?_
          have hb := hangs_by hp nks mks nrk mrk
          by_cases hr : (ded (plcs ws)).length = rks.length
          · rw [decide_eq_true (show V.int ((ded (plcs ws)).length : Int) = V.int (rks.length : Int) by rw [hr]), scB_hang (fun z => by rw [z] at w0m; cases w0m) (hb.mp ⟨hk, hr⟩)]
            exact .bl true
          · rw [decide_eq_false (fun (z : V.int ((ded (plcs ws)).length : Int) = V.int (rks.length : Int)) => hr (by have z := V.int.inj z; omega)), scB_false fun z => hr (hb.mpr z.2).2]
            exact .bl false
        · rw [decide_eq_false (fun (z : V.int (ks.length : Int) = V.int ((ded (plcs ws)).length : Int)) => hk (by have z := V.int.inj z; omega))]
          refine iteF (q _ _ ex4 ?_)
          rw [scB_false fun z => hk ?_]
          · exact .bl false
          · have l1 := nodup_len nks (l := ded (plcs ws)) fun x hx => ded_mem.mpr (rch_plc hp ((mks x).mp hx))
            have l2 := nodup_len (ded_nd (plcs ws)) (l := ks) fun x hx => (mks x).mpr (z.2 _ hp x (ded_mem.mp hx))
            omega
end

/-! ### books that the law draws -/
section
variable {P : Program} {w : World} {K : PySem.W.Frag} {mg : Str → Option Value} {base : Heap}
/-- a text to draw from -/
def Lett (z : Str) : Prop := Word z ∧ 2 ≤ z.length ∧ z.length ≤ 10
/-- a drawn ring text -/
def Ring (r : Str) : Prop := Word r ∧ 1 ≤ r.length ∧ r.length ≤ 100
def Stp (n : Nat) (x : Str) : Prop := Word x ∧ x.length = n
theorem word_lit (z : Str) (h : (sg z).all (fun c => decide (97 ≤ c ∧ c ≤ 122)) = true) : Word z := wordB_word h
theorem rnd_stp {n : Nat} {r : Str} (h : Ring r) : ∀ x ∈ rnd n r, Stp n x := fun x hx => by
  obtain ⟨h1, h2⟩ := rnd_mem hx
  exact ⟨fun c hc => h.1 c (h2 c hc), h1⟩
theorem ring_tx {z : Str} {l : List Nat} (hz : Word z) (h : ∀ a ∈ l, a ∈ sg z) : Word (tx l) := fun c hc => hz c (h c hc)
theorem int_mem {v : V} {is : List Int} (h : v ∈ is.map V.int) : ∃ i ∈ is, v = .int i := by
  obtain ⟨i, hi, rfl⟩ := List.mem_map.mp h
  exact ⟨i, hi, rfl⟩
theorem str_mem {v : V} {is : List Str} (h : v ∈ is.map V.str) : ∃ i ∈ is, v = .str i := by
  obtain ⟨i, hi, rfl⟩ := List.mem_map.mp h
  exact ⟨i, hi, rfl⟩
theorem seqIx {i n : Nat} (h : i < n) : seqIndex? (i : Int) n = some i := by
  unfold seqIndex?
  have h1 : ¬ ((i : Int) < 0) := by omega
  have h2 : (decide (0 ≤ (i : Int)) && decide ((i : Int) < (n : Int))) = true := by
    rw [decide_eq_true (by omega), decide_eq_true (by omega)]
    rfl
  rw [if_neg h1]
  show (if (decide (0 ≤ (i : Int)) && decide ((i : Int) < (n : Int))) = true then some (i : Int).toNat else none) = _
  rw [if_pos h2, Int.toNat_natCast]
/-- what a drawn book is -/
structure Drawn (most n : Nat) (ws rs : List Str) : Prop where
  bk : Bk n ws
  le : ws.length ≤ most
  rg : ∀ r ∈ rs, Ring r
  few : rs.length ≤ 10
end

/-! ### data that is shown -/
section
theorem shwB (b : Bool) : Shw (.bool b) := shw_of rfl (by show 0 ≤ 60; omega) (sz_of (by show 5 ≤ 1000000; omega))
theorem tameStrs : ∀ {ws : List Str}, (∀ x ∈ ws, Word x) → tames (ws.map PyData.str) = true
  | [], _ => rfl
  | x :: ws, h => by
    show (tame (.str x) && tames (ws.map PyData.str)) = true
    rw [tameStrs fun y hy => h y (List.mem_cons_of_mem _ hy), Bool.and_true]
    show x.cps.toList.all (fun c => decide (c < 128)) = true
    refine List.all_eq_true.mpr fun c hc => decide_eq_true ?_
    have := h x (List.mem_cons_self ..) c hc
    omega
theorem wideStrs : ∀ {ws : List Str} {m : Nat}, (∀ x ∈ ws, x.length ≤ m) → wides (ws.map PyData.str) ≤ ws.length * (10 * m + 4)
  | [], m, _ => by
    show 0 ≤ _
    omega
  | x :: ws, m, h => by
    have h1 := h x (List.mem_cons_self ..)
    have ih := wideStrs (ws := ws) (m := m) fun y hy => h y (List.mem_cons_of_mem _ hy)
    show (10 * x.length + 2) + 2 + wides (ws.map PyData.str) ≤ (ws.length + 1) * (10 * m + 4)
    rw [Nat.add_mul, Nat.one_mul]
    omega
theorem shwL {ws : List Str} (h : Ws ws) : Shw (strsL ws) := shw_of (tameStrs fun x hx => (h.wd x hx).1) (by show PyData.depthAll (ws.map PyData.str) + 1 ≤ 60; rw [depthStrs]; omega) (by
  have := wideStrs (ws := ws) (m := 100) fun x hx => (h.wd x hx).2
  have h2 := h.few
  have h3 : ws.length * (10 * 100 + 4) ≤ 1000 * 1004 := Nat.mul_le_mul h2 (Nat.le_refl _)
  have h4 : (2000000 : Nat) < sizeLine := by decide
  show wides (ws.map PyData.str) + 4 ≤ _
  omega)
theorem Bk.lng {n : Nat} {ws : List Str} (B : Bk n ws) : Lng ws := ⟨n, B.lo, fun x hx => (B.win.1 x hx).2⟩
theorem win_sub {n : Nat} {ws l : List Str} (h : Win n ws) (s : l.Sublist ws) : Win n l := ⟨fun x hx => h.1 x (s.subset hx), List.Pairwise.sublist s h.2⟩
end

/-! ### books that hang in parts -/
section
variable {P : Program} {w : World} {K : PySem.W.Frag} {mg : Str → Option Value} {base : Heap}
theorem cutS_mem {x : Str} {lo hi : Option Int} {c : Nat} (h : c ∈ sg (cutS x lo hi)) : c ∈ sg x := List.mem_of_mem_drop (List.mem_of_mem_take h)
theorem cutS_len {x : Str} {lo hi : Option Int} : (cutS x lo hi).length ≤ x.length := by
  show ((x.cps.toList.drop _).take _).length ≤ (sg x).length
  rw [List.length_take, List.length_drop]
  show min _ ((sg x).length - _) ≤ _
  omega
def sp_law_read_from : Sp := fun vs H Q _ => ∃ (w : Addr) (z : Str) (n c : Nat) (G : Hp), vs = [.ref w, .str z, .int n] ∧ Ring z ∧ 1 ≤ n ∧ n ≤ 10 ∧ c ≤ 1000000 ∧ Wt w c G H ∧ ∀ t H', Word t → t.length = n → Wt w (c + 1) G H' → Q (.str t) H'
theorem ok_law_read_from (T : Tx K mg) : Ok P w K mg base CX0 2 "_law_read_from" ["well", "ring", "letters"] sp_law_read_from := by
  refine T.d_law_read_from.ok sc_law_read_from (fun vs H Q E h => ?_) (fun f cdv A outer s H vs Q E hG hr h => ?_)
  · obtain ⟨w, z, n, c, G, rfl, _⟩ := h
    rfl
  · obtain ⟨w, z, n, c, G, rfl, hz, n1, n10, hc, W, q⟩ := h
    refine ⟨_, (pss_cons (ps_set (i := 3) sc_law_read_from.nd rfl (Or.inl rfl) (pe_callO (ok_law_pick T) hG (hr.mono (by decide)) (pa_cons (pv 0) (pa_cons (pe_callB call_len_str (by rfl) T.b_len PySem.boot_len (pa_cons (pv 1) pa_nil)) pa_nil)))) (pss_one (ps_ret (pe_slice sl_str (pe_op op_add_str (pe_slice sl_str (pv 1) (po_some (pv 3)) po_none) (pe_op op_rep_str (pv 1) (pe_op op_add (pv 2) pe_int))) po_none (po_some (pv 2)))))), ?_⟩
    have z1 := hz.2.1
    have z2 := hz.2.2
    refine ⟨_, rfl, _, rfl, z, rfl, sz_of (by omega), w, z.length, c, G, rfl, z1, by omega, hc, W, fun i H1 hi W1 => ?_⟩
    refine ⟨_, rfl, _, rfl, _, rfl, z, rfl, sz_of (by omega), _, rfl, _, rfl, _, _, rfl, rfl, z, _, rfl, rfl, by omega, by omega, z1, by omega, _, _, rfl, rfl, ?_, ?_⟩
    · have h1 : (cutS z (some (i : Int)) none).length ≤ z.length := cutS_len
      have h2 : (tx (rep ((n : Int) + 1).toNat (sg z))).length = ((n : Int) + 1).toNat * z.length := rep_len _ _
      have h3 : ((n : Int) + 1).toNat * z.length ≤ 11 * 100 := Nat.mul_le_mul (by omega) z2
      show (cutS z (some (i : Int)) none).length + (tx (rep ((n : Int) + 1).toNat (sg z))).length ≤ sizeLine
      exact sz_of (by omega)
    · have h1 : (cutS z (some (i : Int)) none).length ≤ z.length := cutS_len
      have h2 : (tx (rep ((n : Int) + 1).toNat (sg z))).length = ((n : Int) + 1).toNat * z.length := rep_len _ _
      have h3 : ((n : Int) + 1).toNat * z.length ≤ 11 * 100 := Nat.mul_le_mul (by omega) z2
      have h4 : ((n : Int) + 1).toNat * 1 ≤ ((n : Int) + 1).toNat * z.length := Nat.mul_le_mul (Nat.le_refl _) z1
      have wd : Word (cutS z (some (i : Int)) none ++ tx (rep ((n : Int) + 1).toNat (sg z))) := fun ch hch => by
        rw [sg_app] at hch
        rcases List.mem_append.mp hch with h | h
        · exact hz.1 ch (cutS_mem h)
        · obtain ⟨l, hl, hm⟩ := List.mem_flatten.mp (show ch ∈ (List.replicate ((n : Int) + 1).toNat (sg z)).flatten from h)
          rw [(List.mem_replicate.mp hl).2] at hm
          exact hz.1 ch hm
      have ln : n ≤ (cutS z (some (i : Int)) none ++ tx (rep ((n : Int) + 1).toNat (sg z))).length ∧ (cutS z (some (i : Int)) none ++ tx (rep ((n : Int) + 1).toNat (sg z))).length ≤ 2000 := by
        rw [strLen_app]
        omega
      dsimp only
      generalize cutS z (some (i : Int)) none ++ tx (rep ((n : Int) + 1).toNat (sg z)) = t at wd ln ⊢
      refine ⟨_, rfl, _, rfl, t, rfl, sz_of (by omega), ?_⟩
      rw [show cutS t none (some (n : Int)) = tx ((sg t).take n) from cut_to t n]
      refine q _ _ (fun ch hch => wd ch (List.mem_of_mem_take hch)) ?_ W1
      show ((sg t).take n).length = n
      rw [List.length_take, ← len_sg]
      omega
/-- what is behind is told once, whichever way it is come to -/
theorem te_split {t : TE} {σ : L2.St} {H : Hp} {Q : VK} (P : V → Hp → Prop) (ht : ∀ R : VK, (∀ v H', P v H' → R v H') → t σ H R) (hq : ∀ v H', P v H' → Q v H') : t σ H Q := ht Q hq
theorem gName_go {i : Nat} {v : V} {σ : L2.St} {H : Hp} {Q : L2.St → Hp → Prop} (h : Q (σ.set i (some v)) H) : gName i v σ H Q := h
theorem for_if {tt : TT} {ta tb : TE} {g : TG} {body u : TS} {D : Ends} {σ : L2.St} {H : Hp} (P : V → Hp → Prop) (ht : ∀ R : VK, (∀ v H', P v H' → R v H') → tIf tt ta tb σ H R)
    (hq : ∀ v H', P v H' → ∃ j : Int, v = .int j ∧ -(2 ^ 62) ≤ j ∧ j < 2 ^ 62 ∧ FoGo (Itr 0 j.toNat) g body { D with nx := u D } σ H') : tSeq (tFor (iRng1 (tCons (tIf tt ta tb) tNil)) g body) u D σ H := by
  refine ht _ fun v H' h => ?_
  obtain ⟨j, rfl, h1, h2, h3⟩ := hq v H' h
  exact ⟨j, rfl, h1, h2, h3⟩
theorem ts_split {t u : TS} {σ : L2.St} {H : Hp} {D : Ends} (P : L2.St → Hp → Prop) (ht : ∀ D' : Ends, (∀ σ' H', P σ' H' → D'.nx σ' H') → t D' σ H) (hq : ∀ σ' H', P σ' H' → u D σ' H') : tSeq t u D σ H := ht _ hq
def sp_law_parted_book (K : PySem.W.Frag) : Sp := fun vs H Q _ => ∃ (w : Addr) (most c : Nat) (G : Hp), vs = [.ref w, .int most] ∧ 16 ≤ most ∧ most ≤ 40 ∧ c ≤ 10000 ∧ Wt w c G H ∧
  ∀ (b : Addr) (n : Nat) (ws : List Str) (G' H' : Hp), Ex G G' → Wt w (c + 1000) G' H' → Dp K G' (.ref b) (bookD n ws) → Bk n ws → ws.length ≤ most → Q (.ref b) H'
theorem ok_law_parted_book (T : Tx K mg) : Ok P w K mg base CX0 3 "_law_parted_book" ["well", "most"] (sp_law_parted_book K) := by
  refine T.d_law_parted_book.ok sc_law_parted_book (fun vs H Q E h => ?_) (fun f cdv A outer s H vs Q E hG hr h => ?_)
  · obtain ⟨w, most, c, G, rfl, _⟩ := h
    rfl
  · obtain ⟨w, most, c, G, rfl, hm, hm2, hc, W, q⟩ := h
    refine ⟨_, (pss_cons (ps_asg (pe_tup (pa_cons (pe_op op_add pe_int (pe_callO (ok_law_pick T) hG (hr.mono (by decide)) (pa_cons (pv 0) (pa_cons pe_int pa_nil)))) (pa_cons (pe_lst pa_nil) (pa_cons (pe_lst pa_nil) pa_nil)))) (pg_tup rfl (pgs_cons (pg_name (i := 2) sc_law_parted_book.nd rfl (Or.inr rfl)) (pgs_cons (pg_name (i := 3) sc_law_parted_book.nd rfl (Or.inl rfl)) (pgs_cons (pg_name (i := 4) sc_law_parted_book.nd rfl (Or.inl rfl)) pgs_nil))))) (pss_cons (ps_for PassesOwn.never rfl (pi_listK (K := K) (pe_slice (sl_listK (K := K)) (pe_lst (pa_cons pe_str (pa_cons pe_str (pa_cons pe_str (pa_cons pe_str (pa_cons pe_str (pa_cons pe_str pa_nil))))))) po_none (po_some (pe_op op_add pe_int (pe_callO (ok_law_pick T) hG (hr.mono (by decide)) (pa_cons (pv 0) (pa_cons pe_int pa_nil))))))) (pg_name (i := 5) sc_law_parted_book.nd rfl (Or.inr rfl)) (pss_cons (ps_set (i := 6) sc_law_parted_book.nd rfl (Or.inl rfl) (pe_joinK (K := K) pe_str (pe_lc (own := [("letter", 12)]) (g := gName 12) (tt := tYes) rfl sc_law_parted_book.nd (pi_range1 (by rfl) T.b_range (pa_cons (pe_op op_add pe_int (pe_callO (ok_law_pick T) hG (hr.mono (by decide)) (pa_cons (pv 0) (pa_cons pe_int pa_nil)))) pa_nil)) (blkOk_by (own := [("letter", 12)]) (N := n_law_parted_book) (sc := defScope s_law_parted_book) (by decide +kernel)) (fun _ _ _ _ _ => pg_name (i := 12) sc_law_parted_book.nd rfl (Or.inl rfl)) (fun _ _ _ _ _ => pts_nil) (fun _ _ _ _ _ => (pe_callO (ok_law_one_of T) hG (hr.mono (by decide)) (pa_cons (pv 0) (pa_cons (pv 5) pa_nil))))))) (pss_cons (ps_set (i := 7) sc_law_parted_book.nd rfl (Or.inl rfl) (pe_callO (ok_law_round T) hG (hr.mono (by decide)) (pa_cons (pv 2) (pa_cons (pv 6) pa_nil)))) (pss_cons (ps_for PassesOwn.never rfl (pi_range1 (by rfl) T.b_range (pa_cons (pe_ifExp (pt_cmpR (op_neDK (K := K) hr.units) (pv 4) (pe_lst pa_nil) (nomark _)) (pe_callO (ok_law_pick T) hG (hr.mono (by decide)) (pa_cons (pv 0) (pa_cons pe_int pa_nil))) pe_int) pa_nil)) (pg_name (i := 8) sc_law_parted_book.nd rfl (Or.inl rfl)) (pss_cons (ps_set (i := 9) sc_law_parted_book.nd rfl (Or.inl rfl) (pe_lst (pa_cons (pe_callO (ok_law_one_of T) hG (hr.mono (by decide)) (pa_cons (pv 0) (pa_cons (pv 4) pa_nil))) (pa_cons (pv 6) pa_nil)))) (pss_cons (ps_if (pt_cmpR op_eq (pe_callO (ok_law_pick T) hG (hr.mono (by decide)) (pa_cons (pv 0) (pa_cons pe_int pa_nil))) pe_int (nomark _)) (pss_one (ps_set (i := 9) sc_law_parted_book.nd rfl (Or.inl rfl) (pe_revL (pv 9)))) pss_nil) (pss_cons (ps_set (i := 10) sc_law_parted_book.nd rfl (Or.inr rfl) (pe_op op_add_str (pe_callO (ok_law_read_from T) hG (hr.mono (by decide)) (pa_cons (pv 0) (pa_cons (pe_ix (ix_listK (K := K)) (pv 9) pe_int (fun _ _ => rfl)) (pa_cons (pe_op op_sub (pv 2) pe_int) pa_nil)))) (pe_callO (ok_law_read_from T) hG (hr.mono (by decide)) (pa_cons (pv 0) (pa_cons (pe_ix (ix_listK (K := K)) (pv 9) pe_int (fun _ _ => rfl)) (pa_cons (pe_op op_sub (pv 2) pe_int) pa_nil)))))) (pss_one (ps_set (i := 7) sc_law_parted_book.nd rfl (Or.inl rfl) (pe_op op_cat (pv 7) (pe_lc (own := [("at", 13)]) (g := gName 13) (tt := tYes) rfl sc_law_parted_book.nd (pi_range1 (by rfl) T.b_range (pa_cons (pe_op op_sub (pv 2) pe_int) pa_nil)) (blkOk_by (own := [("at", 13)]) (N := n_law_parted_book) (sc := defScope s_law_parted_book) (by decide +kernel)) (fun _ _ _ _ _ => pg_name (i := 13) sc_law_parted_book.nd rfl (Or.inl rfl)) (fun _ _ _ _ _ => pts_nil) (fun _ _ _ _ _ => (pe_slice sl_str (pv 10) (po_some (pv 13)) (po_some (pe_op op_add (pv 13) (pv 2))))))))))))) (pss_one (ps_if (pt_cmpR op_le (pe_callB call_lenD (by rfl) T.b_len PySem.boot_len (pa_cons (pe_callO (ok_law_tally T) hG (hr.mono (by decide)) (pa_cons (pe_op op_cat (pv 3) (pv 7)) pa_nil)) pa_nil)) (pv 1) (nomark _)) (pss_cons (ps_set (i := 3) sc_law_parted_book.nd rfl (Or.inl rfl) (pe_op op_cat (pv 3) (pv 7))) (pss_one (ps_expr (pe_bmK (K := K) PySem.F.plainAttrs_list PySem.F.slot_list_append PySem.F.type_list_append mt_append (pv 4) (pa_cons (pv 6) pa_nil))))) pss_nil)))))) (pss_cons (ps_set (i := 11) sc_law_parted_book.nd rfl (Or.inl rfl) (pe_callB (cr_sortDct (K := K) rfl hr.units) (by rfl) T.b_sorted (by decide +kernel) (pa_cons (pe_callO (ok_law_tally T) hG (hr.mono (by decide)) (pa_cons (pv 3) pa_nil)) pa_nil))) (pss_cons (ps_for PassesOwn.never rfl (pi_range1 (by rfl) T.b_range (pa_cons (pe_callO (ok_law_one_of T) hG (hr.mono (by decide)) (pa_cons (pv 0) (pa_cons (pe_lst (pa_cons pe_int (pa_cons pe_int (pa_cons pe_int pa_nil)))) pa_nil))) pa_nil)) (pg_name (i := 8) sc_law_parted_book.nd rfl (Or.inl rfl)) (pss_one (ps_if (pt_cmpR op_gt (pe_callB (call_lenK (K := K)) (by rfl) T.b_len PySem.boot_len (pa_cons (pv 11) pa_nil)) pe_int (nomark _)) (pss_one (ps_expr (pe_bmK (K := K) PySem.F.plainAttrs_list PySem.F.slot_list_pop PySem.F.type_list_pop mt_popAt (pv 11) (pa_cons (pe_callO (ok_law_pick T) hG (hr.mono (by decide)) (pa_cons (pv 0) (pa_cons (pe_callB (call_lenK (K := K)) (by rfl) T.b_len PySem.boot_len (pa_cons (pv 11) pa_nil)) pa_nil))) pa_nil)))) pss_nil))) (pss_one (ps_ret (pe_tup (pa_cons (pv 2) (pa_cons (pe_callTy (call_tupleK (K := K)) (by rfl) T.b_tuple (by decide +kernel) (pa_cons (pv 11) pa_nil)) pa_nil))))))))), ?_⟩
    have s0 : 0 ≤ sizeLine := sz_of (by omega)
    have s2 : 2 ≤ sizeLine := sz_of (by omega)
    have s3 : 3 ≤ sizeLine := sz_of (by omega)
    have s6 : 6 ≤ sizeLine := sz_of (by omega)
    refine ⟨_, rfl, w, 5, c, G, rfl, by omega, by omega, by omega, W, fun i H1 hi W1 => ⟨2, i, rfl, rfl, s0, fun st nst => ⟨s0, fun rg nrg => ⟨s3, fun T0 nT0 => ⟨T0, _, rfl, SqT.of upd_same, rfl, _, _, rfl, _, _, rfl, _, _, rfl, rfl, ?_⟩⟩⟩⟩⟩
    obtain ⟨n, hn, hn2, hn6⟩ : ∃ n : Nat, (2 : Int) + (i : Int) = (n : Int) ∧ 2 ≤ n ∧ n ≤ 6 := ⟨2 + i, by omega, by omega, by omega⟩
    dsimp only
    rw [hn]
    have W2 := W1.new (o := .lst []) nst
    have W3 := W2.new (o := .lst []) nrg
    have W4 := W3.new (o := .tup [.int (n : Int), .ref st, .ref rg]) nT0
    have g2 := W1.free nst
    have g3 := W2.free nrg
    have g4 := W3.free nT0
    have e2 : Ex G (upd G st (.lst [])) := Ex.new g2
    have rg2 : (upd G st (.lst [])) rg = none := g3
    have dst : (upd (upd (upd G st (.lst [])) rg (.lst [])) T0 (.tup [.int (n : Int), .ref st, .ref rg])) st = some (.lst (([] : List Str).map V.str)) := Ex.new g4 _ _ (Ex.new g3 _ _ upd_same)
    have drg : (upd (upd (upd G st (.lst [])) rg (.lst [])) T0 (.tup [.int (n : Int), .ref st, .ref rg])) rg = some (.lst (([] : List Str).map V.str)) := Ex.new g4 _ _ upd_same
    have e4 : Ex (upd G st (.lst [])) (upd (upd (upd G st (.lst [])) rg (.lst [])) T0 (.tup [.int (n : Int), .ref st, .ref rg])) := (Ex.new g3).trans (Ex.new g4)
    generalize upd (upd (upd G st (.lst [])) rg (.lst [])) T0 (.tup [.int (n : Int), .ref st, .ref rg]) = G4 at W4 dst drg e4
    generalize upd (upd (upd H1 st (.lst [])) rg (.lst [])) T0 (.tup [.int (n : Int), .ref st, .ref rg]) = H4 at W4
    generalize upd G st (.lst []) = Gb at e2 rg2 e4
    -- the letters
    refine ⟨s6, fun pl npl => ⟨_, rfl, w, 6, c + 1, upd G4 pl _, rfl, by omega, by omega, by omega, W4.new npl, fun i2 H5 hi2 W5 => ⟨1, i2, rfl, rfl, _, rfl, pl, _, rfl, SqL.of (W5.e _ _ upd_same), fun pc npc => ⟨pc, rfl, ?_⟩⟩⟩⟩
    have hcut : cutV [V.str "ab", .str "xyz", .str "cd", .str "efg", .str "m", .str "hijkl"] none (some ((1 : Int) + (i2 : Int))) = ((["ab", "xyz", "cd", "efg", "m", "hijkl"] : List Str).take (1 + i2)).map V.str := by
      rw [show ((1 : Int) + (i2 : Int)) = ((1 + i2 : Nat) : Int) by omega, cutV_to, List.map_take]
      rfl
    rw [hcut]
    have lets : ∀ z ∈ (["ab", "xyz", "cd", "efg", "m", "hijkl"] : List Str).take (1 + i2), Word z ∧ 1 ≤ z.length ∧ z.length ≤ 5 := fun z hz => by
      have hz := List.mem_of_mem_take hz
      simp only [List.mem_cons, List.mem_nil_iff, or_false] at hz
      rcases hz with rfl | rfl | rfl | rfl | rfl | rfl <;> exact ⟨word_lit _ (by decide +kernel), by decide +kernel, by decide +kernel⟩
    have ltl : ((["ab", "xyz", "cd", "efg", "m", "hijkl"] : List Str).take (1 + i2)).length ≤ 6 ∧ 1 ≤ ((["ab", "xyz", "cd", "efg", "m", "hijkl"] : List Str).take (1 + i2)).length := by
      rw [List.length_take]
      show min (1 + i2) 6 ≤ 6 ∧ 1 ≤ min (1 + i2) 6
      omega
    generalize (["ab", "xyz", "cd", "efg", "m", "hijkl"] : List Str).take (1 + i2) = lts at lets ltl
    have W6 := W5.new (o := .lst (lts.map V.str)) npc
    have g6 := W5.free npc
    have g5 : G4 pl = none := W4.free npl
    have e46 : Ex G4 (upd (upd G4 pl (.lst [V.str "ab", .str "xyz", .str "cd", .str "efg", .str "m", .str "hijkl"])) pc (.lst (lts.map V.str))) := (Ex.new g5).trans (Ex.new g6)
    have hpc : (upd (upd G4 pl (.lst [V.str "ab", .str "xyz", .str "cd", .str "efg", .str "m", .str "hijkl"])) pc (.lst (lts.map V.str))) pc = some (.lst (lts.map V.str)) := upd_same
    have pcrg : pc ≠ rg := (ne_of_none (Ex.new g5 _ _ drg) g6).symm
    generalize upd (upd G4 pl (.lst [V.str "ab", .str "xyz", .str "cd", .str "efg", .str "m", .str "hijkl"])) pc (.lst (lts.map V.str)) = G6 at W6 e46 hpc
    generalize upd H5 pc (.lst (lts.map V.str)) = H6 at W6
    have eb6 := e4.trans e46
    refine fo_lst (Hb := upd (fun _ => none) pc (.lst (lts.map V.str))) (SqL.of upd_same) (fun j σ H' => ∃ (G' : Hp) (xs rs : List Str) (st : Addr) (x5 x6 x7 x8 x9 x10 : Option V), σ = [some (.ref w), some (.int most), some (.int n), some (.ref st), some (.ref rg), x5, x6, x7, x8, x9, x10, none, none, none] ∧ Ex Gb G' ∧ Wt w (c + 10 + 60 * j) G' H' ∧ G' pc = some (.lst (lts.map V.str)) ∧
      G' st = some (.lst (xs.map V.str)) ∧ G' rg = some (.lst (rs.map V.str)) ∧ (∀ x ∈ xs, Stp n x) ∧ (∀ r ∈ rs, Ring r) ∧ xs.length ≤ 20 * j ∧ rs.length ≤ j ∧ (j = 0 → xs = [] ∧ rs = []) ∧ (0 < j → xs ≠ []) ∧ (ded xs).length ≤ most) ?_ ?_ ?_ ?_
    · exact ⟨G6, [], [], st, _, _, _, _, _, _, rfl, eb6, W6.up (by omega), hpc, e46 _ _ dst, e46 _ _ drg, fun x h => (List.not_mem_nil h).elim, fun x h => (List.not_mem_nil h).elim, Nat.zero_le _, Nat.zero_le _, fun _ => ⟨rfl, rfl⟩, fun h => absurd h (by omega), Nat.zero_le _⟩
    · rintro j σ H' ⟨G', xs, rs, st, x5, x6, x7, x8, x9, x10, rfl, e, W, hpc, _⟩ q o hq
      by_cases hqp : q = pc
      · rw [hqp, upd_same] at hq
        rw [hqp]
        exact W.e _ _ (hpc.trans hq)
      · rw [upd_ne hqp] at hq
        cases hq
    · rintro j y σ H' hj ⟨G', xs, rs, st, x5, x6, x7, x8, x9, x10, rfl, e, W, hpc, hst, hrg, hxs, hrs, lx, lr, j0, j1, dl⟩
      obtain ⟨z, hz, rfl⟩ := str_at hj
      obtain ⟨zw, z1, z5⟩ := lets z (List.mem_of_getElem? hz)
      have hj6 : j < 6 := by
        have := (List.getElem?_eq_some_iff.mp hz).1
        omega
      refine ⟨⟨_, rfl⟩, _, rfl, w, 8, _, G', rfl, by omega, by omega, by omega, W, fun i3 H7 hi3 W7 => ⟨1, i3, rfl, rfl, _, rfl, by omega, by omega, fun D np7 => ?_⟩⟩
      have ei3 : ((1 : Int) + (i3 : Int)).toNat = 1 + i3 := by omega
      rw [ei3]
      refine lc_letters (K := K) (z := z) W7 (by omega) (by omega) np7 (fun i4 x c4 G8 H8 Y e8 hc4 W8 hy => ?_) (fun G9 H9 l e9 W9 hl hlm hD => ?_)
      · exact ⟨rfl, lc_yes ⟨_, rfl, _, rfl, w, .str z, z.length, c4, G8, rfl, z1, by omega, hc4, W8, .inl ⟨z, rfl, rfl, hy⟩⟩⟩
      refine ⟨"", D, l.map one1, rfl, rfl, .inl (SqL.of (W9.e _ _ hD)), ?_, ?_⟩
      · rw [lens_ones1, hl]
        have : ("" : Str).length = 0 := by decide +kernel
        rw [this]
        omega
      rw [join_ones1]
      have hr : Ring (tx l) := ⟨ring_tx zw hlm, by show 1 ≤ l.length; omega, by show l.length ≤ 100; omega⟩
      have hrl : (tx l).length = 1 + i3 := hl
      generalize tx l = ring at hr hrl
      have rl : (rnd n ring).length = 1 + i3 := by rw [rnd_len, hrl]
      refine ⟨_, rfl, _, rfl, n, ring, rfl, hr.2.1, by omega, by omega, fun fa Ha ea na ha => ?_⟩
      obtain ⟨G10, e10, W10, ha10, _⟩ := W9.newt ea na ha
      have eG : Ex G' G10 := e9.trans e10
      have hrg10 := eG _ _ hrg
      have hst10 := eG _ _ hst
      have wrs : ∀ x ∈ rs, Word x := fun x hx => (hrs x hx).1
      -- how many turns
      refine gName_go ?_
      dsimp only
      refine for_if (fun v H' => ∃ (tc : Nat) (G2 : Hp), v = .int tc ∧ tc ≤ 2 ∧ (0 < tc → rs ≠ []) ∧ Ex G10 G2 ∧ Wt w (c + 10 + 60 * j + 20) G2 H') (fun R hR => ?_) ?_
      · refine ⟨_, rfl, s0, fun np nnp => ⟨strsL rs, .list [], dpL (SqL.of (Ex.new nnp _ _ (W10.e _ _ hrg10))), .lst (SqL.of upd_same) .nil, shapedL wrs, rfl, _, rfl, ?_⟩⟩
        have W11 := W10.new (o := .lst []) nnp
        have e11 : Ex G10 (upd G10 np (.lst [])) := Ex.new (W10.free nnp)
        by_cases hrs0 : rs = []
        · subst hrs0
          exact iteF (hR _ _ ⟨0, _, rfl, by omega, fun h => absurd h (by omega), e11, W11.up (by omega)⟩)
        · have hne : (!PyData.eqv (strsL rs) (.list [])) = true := by
            cases rs with
            | nil => exact absurd rfl hrs0
            | cons x l => rfl
          rw [hne]
          exact iteT ⟨_, rfl, w, 3, _, _, rfl, by omega, by omega, by omega, W11, fun i5 H8 hi5 W8 => hR _ _ ⟨i5, _, rfl, by omega, fun _ => hrs0, e11, W8.up (by omega)⟩⟩
      rintro v H8 ⟨tc, G11, rfl, tc2, tcr, e11, W11⟩
      refine ⟨_, rfl, by omega, by omega, ?_⟩
      rw [Int.toNat_natCast]
      have rl0 : rs = [] → tc = 0 := fun h => by
        by_cases h0 : 0 < tc
        · exact absurd h (tcr h0)
        · omega
      refine fo_rng (fun k σ H' => ∃ (G' : Hp) (fu : List Str) (fa : Addr) (x8 x9 x10 : Option V), σ = [some (.ref w), some (.int most), some (.int n), some (.ref st), some (.ref rg), some (.str z), some (.str ring), some (.ref fa), x8, x9, x10, none, none, none] ∧ Ex G11 G' ∧ Wt w (c + 10 + 60 * j + 20 + 10 * k) G' H' ∧
        G' fa = some (.lst (fu.map V.str)) ∧ (∀ x ∈ fu, Stp n x) ∧ fu ≠ [] ∧ fu.length ≤ 8 + 5 * k) ?_ ?_ ?_
      · refine ⟨G11, rnd n ring, fa, _, _, _, rfl, Ex.refl _, W11, e11 _ _ ha10, rnd_stp hr, fun h => ?_, by omega⟩
        rw [h] at rl
        have : ([] : List Str).length = 0 := rfl
        omega
      · rintro k σ H9 hk ⟨G12, fu, fa, x8, x9, x10, rfl, e12, W12, hfa, hfu, fne, lf⟩
        have rne := tcr (by omega)
        have rpos : 1 ≤ rs.length := List.length_pos_iff.mpr rne
        have hrg12 := e12 _ _ (e11 _ _ hrg10)
        refine ⟨_, rfl, _, rfl, w, .ref rg, rs.length, _, G12, rfl, rpos, by omega, by omega, W12, .inr ⟨rg, _, rfl, .inl (SqL.of hrg12), by rw [List.length_map], fun v H10 hv W13 => ⟨_, rfl, s2, fun pe npe => ?_⟩⟩⟩
        obtain ⟨r1, hr1m, rfl⟩ := str_mem hv
        have hr1 := hrs r1 hr1m
        have W14 := W13.new (o := .lst [.str r1, .str ring]) npe
        have g14 := W13.free npe
        have hpe : (upd G12 pe (.lst [.str r1, .str ring])) pe = some (.lst [.str r1, .str ring]) := upd_same
        have e14 : Ex G12 (upd G12 pe (.lst [.str r1, .str ring])) := Ex.new g14
        generalize upd G12 pe (.lst [.str r1, .str ring]) = G14 at W14 hpe e14
        generalize upd H10 pe (.lst [.str r1, .str ring]) = H11 at W14
        refine gName_go ?_
        dsimp only
        refine ts_split (t := tIfS _ _ _) (fun σ' H' => ∃ (pe : Addr) (a b : Str) (G' : Hp), σ' = [some (.ref w), some (.int most), some (.int n), some (.ref st), some (.ref rg), some (.str z), some (.str ring), some (.ref fa), some (.int (0 + (k : Int))), some (.ref pe), x10, none, none, none] ∧ Ex G12 G' ∧ Wt w (c + 10 + 60 * j + 20 + 10 * k + 3) G' H' ∧ G' pe = some (.lst [.str a, .str b]) ∧ Ring a ∧ Ring b) (fun D' hD' => ?_) ?_
        · refine ⟨_, rfl, w, 5, _, G14, rfl, by omega, by omega, by omega, W14, fun i6 H12 hi6 W15 => ⟨rfl, _, rfl, ?_⟩⟩
          by_cases h0 : V.int (i6 : Int) = V.int 0
          · rw [decide_eq_true h0]
            refine iteT ⟨_, rfl, pe, _, rfl, SqL.of (W15.e _ _ hpe), fun p np => hD' _ _ ⟨p, ring, r1, upd G14 p _, rfl, e14.trans (Ex.new (W15.free np)), (W15.new np).up (by omega), upd_same, hr, hr1⟩⟩
          · rw [decide_eq_false h0]
            exact iteF (hD' _ _ ⟨pe, r1, ring, G14, rfl, e14, W15.up (by omega), hpe, hr1, hr⟩)
        rintro σ' H12 ⟨pe, ra, rb, G15, rfl, e15, W15, hpe, hra, hrb⟩
        obtain ⟨n', hn'⟩ : ∃ n' : Nat, (n : Int) - 1 = (n' : Int) ∧ n' + 1 = n := ⟨n - 1, by omega, by omega⟩
        have hpeH := W15.e _ _ hpe
        refine ⟨_, rfl, _, rfl, pe, _, 0, .str ra, rfl, rfl, SqL.of hpeH, atI_of (j := 0) rfl rfl, _, rfl, _, _, rfl, rfl, w, ra, n', _, G15, by dsimp only; rw [hn'.1], hra, by omega, by omega, by omega, W15, fun t1 H13 t1w t1l W16 => ?_⟩
        refine ⟨_, rfl, _, rfl, pe, _, 1, .str rb, rfl, rfl, SqL.of (W16.e _ _ hpe), atI_of (j := 1) rfl rfl, _, rfl, _, _, rfl, rfl, w, rb, n', _, G15, by dsimp only; rw [hn'.1], hrb, by omega, by omega, by omega, W16, fun t2 H14 t2w t2l W17 => ⟨t1, t2, rfl, rfl, sz_of (by omega), ?_⟩⟩
        have tw : Word (t1 ++ t2) := fun ch hch => by
          rw [sg_app] at hch
          exact (List.mem_append.mp hch).elim (t1w ch) (t2w ch)
        have tl : (t1 ++ t2).length = 2 * n' := by
          rw [strLen_app]
          omega
        generalize t1 ++ t2 = text at tw tl
        refine ⟨_, rfl, _, rfl, _, _, rfl, rfl, _, rfl, by omega, by omega, fun D npD => ?_⟩
        have hto : ((n : Int) - 1).toNat = n' := by omega
        rw [hto]
        refine lc_rng K (n := n') (fun _ => true) (fun i => PyData.str (tx (((sg text).drop i).take n))) npD (by omega) (fun _ _ => rfl) (fun i x H15 Y Z hi e16 hit hyes _ => ?_) (fun H15 acc e16 hD ha => ?_)
        · subst hit
          have h0 : (0 : Int) + (i : Int) = (i : Int) := Int.zero_add _
          rw [h0]
          refine ⟨rfl, lc_yes ⟨_, rfl, _, rfl, _, rfl, _, rfl, _, rfl, _, _, rfl, rfl, _, rfl, text, rfl, sz_of (by omega), hyes rfl _ _ (Ex.refl _) ?_⟩⟩
          have hc : cutS text (some (i : Int)) (some ((i : Int) + (n : Int))) = tx (((sg text).drop i).take n) := by
            rw [show (i : Int) + (n : Int) = ((i + n : Nat) : Int) by omega, cut_at text i (i + n) (by omega), show min i text.length = i by omega, show i + n - i = n by omega]
          show Dp K H15 (V.str (cutS text (some (i : Int)) (some ((i : Int) + (n : Int))))) _
          rw [hc]
          exact .str _
        · obtain rfl : acc = ((List.range n').map fun i => tx (((sg text).drop i).take n)).map V.str := strs_dpa (by
            rw [givenD_all] at ha
            rw [List.map_map]
            exact ha)
          have hcs : ∀ x ∈ (List.range n').map (fun i => tx (((sg text).drop i).take n)), Stp n x := fun x hx => by
            obtain ⟨i, hi, rfl⟩ := List.mem_map.mp hx
            have hi := List.mem_range.mp hi
            refine ⟨fun ch hch => tw ch (List.mem_of_mem_drop (List.mem_of_mem_take hch)), ?_⟩
            show (((sg text).drop i).take n).length = n
            rw [List.length_take, List.length_drop, ← len_sg]
            omega
          have lcs : ((List.range n').map (fun i => tx (((sg text).drop i).take n))).length = n' := by rw [List.length_map, List.length_range]
          generalize (List.range n').map (fun i => tx (((sg text).drop i).take n)) = cs at hD hcs lcs
          obtain ⟨G18, e18, W18, hD18, _⟩ := W17.newt e16 npD hD
          have hfa18 := (e15.trans e18) _ _ hfa
          refine ⟨fa, D, _, _, rfl, rfl, W18.e _ _ hfa18, W18.e _ _ hD18, by rw [List.length_map, List.length_map]; exact sz_of (by omega), fun p np => ?_⟩
          refine ⟨_, fu ++ cs, p, _, _, _, rfl, (e12.trans (e15.trans e18)).trans (Ex.new (W18.free np)), (W18.new np).up (by omega), by rw [upd_same, List.map_append], fun x hx => (List.mem_append.mp hx).elim (hfu x) (hcs x), fun h => fne (List.append_eq_nil_iff.mp h).1, ?_⟩
          rw [List.length_append, lcs]
          omega
      · rintro σ H9 ⟨G12, fu, fa, x8, x9, x10, rfl, e12, W12, hfa, hfu, fne, lf⟩
        have lf18 : fu.length ≤ 18 := by omega
        have e12b := (eG.trans e11).trans e12
        have hst12 := e12b _ _ hst
        have hrg12 := e12b _ _ hrg
        have hpc12 := e12b _ _ hpc
        have W12 := W12.up (show c + 10 + 60 * j + 20 + 10 * tc ≤ c + 10 + 60 * j + 40 by omega)
        refine ⟨_, rfl, _, rfl, st, fa, _, _, rfl, rfl, W12.e _ _ hst12, W12.e _ _ hfa, by rw [List.length_map, List.length_map]; exact sz_of (by omega), fun p1 np1 => .inl ⟨p1, xs ++ fu, rfl, SqL.of (by rw [List.map_append]; exact upd_same), by rw [List.length_append]; omega, fun d Hd ed nd hd => ⟨d, _, rfl, hd, _, rfl, _, _, rfl, rfl, _, rfl, ?_⟩⟩⟩
        have W13 := W12.new (o := .lst (xs.map V.str ++ fu.map V.str)) np1
        obtain ⟨G14, e14, W14, _⟩ := W13.ex ed
        have e14b := (Ex.new (o := .lst (xs.map V.str ++ fu.map V.str)) (W12.free np1)).trans e14
        have tkl : (tkv (xs ++ fu)).length = (ded (xs ++ fu)).length := fkv_len _ _
        have allS : ∀ x ∈ xs ++ fu, Stp n x := fun x hx => (List.mem_append.mp hx).elim (hxs x) (hfu x)
        rw [tkl]
        by_cases hle : ((ded (xs ++ fu)).length : Int) ≤ (most : Int)
        · rw [decide_eq_true hle]
          have hst14 := e14b _ _ hst12
          have hfa14 := e14b _ _ hfa
          have hrg14 := e14b _ _ hrg12
          have hpc14 := e14b _ _ hpc12
          refine iteT ⟨_, rfl, _, rfl, st, fa, _, _, rfl, rfl, W14.e _ _ hst14, W14.e _ _ hfa14, by rw [List.length_map, List.length_map]; exact sz_of (by omega), fun p2 np2 => ?_⟩
          have W15 := W14.new (o := .lst (xs.map V.str ++ fu.map V.str)) np2
          have f2 := W14.free np2
          have x2 := Ex.new (o := .lst (xs.map V.str ++ fu.map V.str)) f2
          have hrg15 := x2 _ _ hrg14
          have hrgH := W15.e _ _ hrg15
          refine ⟨_, rfl, .inl ⟨rfl, _, SqL.of hrgH⟩, _, rfl, rg, _, _, rfl, rfl, hrgH, sz_lt (by rw [List.length_map]; omega), ?_⟩
          refine ⟨_, xs ++ fu, rs ++ [ring], p2, _, _, _, _, _, _, rfl, Ex.mut (((e.trans e12b).trans e14b).trans x2) rg2, (W15.mut hrg15).up (by omega), ?_, ?_, ?_, allS, fun r hr2 => ?_, ?_, ?_, fun h => absurd h (by omega), fun _ h => fne (List.append_eq_nil_iff.mp h).2, by omega⟩
          · rw [upd_ne pcrg]
            exact x2 _ _ hpc14
          · rw [upd_ne (ne_of_none hrg14 f2).symm, upd_same, List.map_append]
          · rw [upd_same, List.map_append]
            rfl
          · exact (List.mem_append.mp hr2).elim (hrs r) fun h => by rw [List.mem_singleton.mp h]; exact hr
          · rw [List.length_append]
            omega
          · rw [List.length_append]
            have : [ring].length = 1 := rfl
            omega
        · rw [decide_eq_false hle]
          refine iteF ⟨G14, xs, rs, st, _, _, _, _, _, _, rfl, (e.trans e12b).trans e14b, W14.up (by omega), e14b _ _ hpc12, e14b _ _ hst12, e14b _ _ hrg12, hxs, hrs, by omega, by omega, fun h => absurd h (by omega), fun _ => ?_, dl⟩
          by_cases hj0 : j = 0
          · obtain ⟨x0, r0⟩ := j0 hj0
            have t0 := rl0 r0
            have := ded_le (xs ++ fu)
            rw [x0, List.nil_append] at this hle
            omega
          · exact j1 (by omega)
    · rintro σ H' ⟨G7, xs, rs, st, x5, x6, x7, x8, x9, x10, rfl, e7, W7, hpc, hst, hrg, hxs, hrs, lx, lr, _, j1, dl⟩
      rw [List.length_map] at W7 lx lr j1
      have xne := j1 (by omega)
      have lx : xs.length ≤ 120 := by omega
      have W7 := W7.up (show c + 10 + 60 * lts.length ≤ c + 400 by omega)
      have dle := ded_le xs
      refine ⟨_, rfl, .inl ⟨st, xs, rfl, SqL.of (W7.e _ _ hst), by omega, fun d Hd ed nd hd => ⟨d, _, ded xs, rfl, .inl hd, fkv_keys _ _, by omega, fun wl nwl => ?_⟩⟩⟩
      obtain ⟨G9, e9, W9, _⟩ := W7.ex ed
      have fwl := W9.free nwl
      have W10 := W9.new (o := .lst ((sortS (ded xs)).map V.str)) nwl
      have hw10 : (upd G9 wl (.lst ((sortS (ded xs)).map V.str))) wl = some (.lst ((sortS (ded xs)).map V.str)) := upd_same
      have asc0 : Asc (sortS (ded xs)) := sortS_asc (ded_nd _)
      have stp0 : ∀ x ∈ sortS (ded xs), Stp n x := fun x hx => hxs x (ded_mem.mp (sortS_mem.mp hx))
      have ne0 : sortS (ded xs) ≠ [] := by
        intro h
        obtain ⟨x, hx⟩ := List.exists_mem_of_ne_nil _ xne
        have h3 := sortS_mem.mpr (ded_mem.mpr hx)
        rw [h] at h3
        exact List.not_mem_nil h3
      have le0 : (sortS (ded xs)).length ≤ most := by rw [sortS_len]; exact dl
      generalize sortS (ded xs) = ws0 at hw10 asc0 stp0 ne0 le0 W10
      have e10 : Ex G9 (upd G9 wl (.lst (ws0.map V.str))) := Ex.new fwl
      generalize upd G9 wl (.lst (ws0.map V.str)) = G10 at W10 hw10 e10
      generalize upd Hd wl (.lst (ws0.map V.str)) = H10 at W10
      refine ⟨_, rfl, s3, fun p np => ⟨w, .ref p, 3, c + 400, upd G10 p _, rfl, by omega, by omega, by omega, W10.new np, .inr ⟨p, _, rfl, .inl (SqL.of upd_same), rfl, fun v H2 hv W11 => ?_⟩⟩⟩
      obtain ⟨tm, htm, rfl⟩ := int_mem (is := [0, 0, 1]) hv
      have htm : 0 ≤ tm ∧ tm ≤ 2 := by
        simp only [List.mem_cons, List.mem_nil_iff, or_false] at htm
        omega
      have e11 : Ex G10 (upd G10 p (.lst [.int 0, .int 0, .int 1])) := Ex.new (W10.free np)
      have W11' : Wt w (c + 401) (upd G10 p (.lst [.int 0, .int 0, .int 1])) H2 := W11
      clear W11
      generalize upd G10 p (.lst [.int 0, .int 0, .int 1]) = G11 at W11' e11
      refine ⟨tm, rfl, by omega, by omega, ?_⟩
      refine fo_rng (fun j σ H' => ∃ (G' : Hp) (ws : List Str) (x8 : Option V), σ = [some (.ref w), some (.int most), some (.int n), some (.ref st), some (.ref rg), x5, x6, x7, x8, x9, x10, some (.ref wl), none, none] ∧ Ex G9 G' ∧ Wt w (c + 401 + j) G' H' ∧
        G' wl = some (.lst (ws.map V.str)) ∧ Asc ws ∧ (∀ x ∈ ws, Stp n x) ∧ ws ≠ [] ∧ ws.length ≤ most) ?_ ?_ ?_
      · exact ⟨G11, ws0, _, rfl, e10.trans e11, W11', e11 _ _ hw10, asc0, stp0, ne0, le0⟩
      · rintro j σ H' hj ⟨G', ws, x8, rfl, e, W, hw, ha, hs, hne, hle⟩
        have hwH := W.e _ _ hw
        have lm : (ws.map V.str).length = ws.length := List.length_map ..
        refine ⟨_, rfl, wl, _, rfl, .inl (SqL.of hwH), _, _, rfl, rfl, _, rfl, ?_⟩
        by_cases h1 : (1 : Int) < ((ws.map V.str).length : Int)
        · rw [decide_eq_true h1]
          refine iteT ⟨_, rfl, .inl ⟨rfl, _, SqL.of hwH⟩, _, rfl, _, rfl, wl, _, rfl, .inl (SqL.of hwH), w, (ws.map V.str).length, _, G', rfl, by omega, by omega, by omega, W, fun i H2 hi W2 => ⟨wl, _, i, i, _, rfl, rfl, W2.e _ _ hw, by omega, by omega, ?_, List.getElem?_eq_getElem hi, ?_⟩⟩
          · exact seqIx (by omega)
          · refine ⟨upd G' wl (.lst ((ws.map V.str).eraseIdx i)), ws.eraseIdx i, _, rfl, Ex.mut e fwl, W2.mut hw, by rw [upd_same, map_eraseIdx], List.Pairwise.sublist (List.eraseIdx_sublist _ _) ha, fun x hx => hs x (List.mem_of_mem_eraseIdx hx), ?_, ?_⟩
            · intro h
              have h2 : (ws.eraseIdx i).length = 0 := by rw [h]; rfl
              rw [List.length_eraseIdx] at h2
              split at h2 <;> omega
            · have := List.length_eraseIdx_le ws i
              omega
        · rw [decide_eq_false h1]
          exact iteF ⟨G', ws, _, rfl, e, W.up (by omega), hw, ha, hs, hne, hle⟩
      · rintro σ H' ⟨G12, ws, x8, rfl, e12, W12, hw, ha, hs, hne, hle⟩
        have W12 := W12.up (show c + 401 + tm.toNat ≤ c + 500 by omega)
        have hwH := W12.e _ _ hw
        refine ⟨_, rfl, _, rfl, wl, _, rfl, .inl ⟨SqL.of hwH, fun l nl => ⟨s2, fun b nb => ?_⟩⟩⟩
        have W13 := W12.new (o := .tup (ws.map V.str)) nl
        have W14 := W13.new (o := .tup [.int n, .ref l]) nb
        have f1 := W12.free nl
        have f2 := W13.free nb
        have x12 := Ex.new (o := .tup [.int n, .ref l]) f2
        refine q b n ws _ _ (((e2.trans e7).trans (e9.trans e12)).trans ((Ex.new f1).trans x12)) (W14.up (by omega)) (bookDp (SqT.of upd_same) (SqT.of (x12 _ _ upd_same))) ⟨hn2, hn6, ⟨hs, ha⟩, hne, by omega⟩ hle
end

/-! ### lots and what they come to -/
section
variable {P : Program} {w : World} {K : PySem.W.Frag} {mg : Str → Option Value} {base : Heap}
theorem ex_lock {H H' : Hp} {d : Addr} {o : HO} (e : Ex H H') : Ex (upd H d o) (upd H' d o) := fun q u hq => by
  by_cases hd : q = d
  · rw [hd, upd_same] at hq
    rw [hd, upd_same]
    exact hq
  · rw [upd_ne hd] at hq
    rw [upd_ne hd]
    exact e q u hq
def LotAt (H : Hp) (L : Addr) (ks : List Str) (lt : Str → Nat) : Prop := H L = some (.dK (fkv (fun z => V.int (lt z : Int)) ks))
theorem lot_put {lt : Str → Nat} {ks : List Str} {z : Str} {n : Nat} (h : lt z = n) : putK (fkv (fun z => V.int (lt z : Int)) ks) (kS z) (V.int (n : Int)) = fkv (fun z => V.int (lt z : Int)) (addS ks z) := by
  rw [fkv_put]
  refine fkv_congr fun y _ => ?_
  by_cases hy : y = z
  · rw [if_pos hy, hy, h]
  · rw [if_neg hy]
def sp_knots_of (K : PySem.W.Frag) : Sp := fun vs H Q _ => ∃ (v : V) (n : Nat) (ws : List Str), vs = [v] ∧ Dp K H v (bookD n ws) ∧ Ws ws ∧
  ∀ (T L O : Addr) (ks : List Str) (lt : Str → Nat) (m : Nat) (H' : Hp), Ex H H' → H' T = some (.tup [.ref L, .ref O]) → LotAt H' L ks lt → ks.Nodup → (∀ p, p ∈ ks ↔ p ∈ plcs ws) → Lt ws m lt → m ≤ ks.length → Onw H' O m (lle ws lt) → Q (.ref T) H'
theorem ok_knots_of (T : Tx K mg) : Ok P w K mg base CX0 4 "knots_of" ["book"] (sp_knots_of K) := by
  refine T.d_knots_of.ok sc_knots_of (fun vs H Q E h => ?_) (fun f cdv A outer s H vs Q E hG hr h => ?_)
  · obtain ⟨v, n, ws, rfl, _⟩ := h
    rfl
  · obtain ⟨v, n, ws, rfl, hB, hw, q⟩ := h
    refine ⟨_, (pss_cons (ps_set (i := 2) sc_knots_of.nd rfl (Or.inr rfl) (pe_dc (own := [("spot", 1)]) (g := gName 1) (tt := tYes) rfl sc_knots_of.nd (pi_listK (K := K) (pe_callO (ok_places_of T) hG (hr.mono (by decide)) (pa_cons (pv 0) pa_nil))) (blkOk_by (own := [("spot", 1)]) (N := n_knots_of) (sc := defScope s_knots_of) (by decide +kernel)) (fun _ _ _ _ _ => pg_name (i := 1) sc_knots_of.nd rfl (Or.inl rfl)) (fun _ _ _ _ _ => pts_nil) (fun _ _ _ _ _ => (pv 1)) (fun _ _ _ _ _ => (pe_callO (ok_places_from T) hG (hr.mono (by decide)) (pa_cons (pv 0) (pa_cons (pv 1) pa_nil)))))) (pss_cons (ps_asg (pe_tup (pa_cons pe_dnewK (pa_cons (pe_lst pa_nil) pa_nil))) (pg_tup rfl (pgs_cons (pg_name (i := 3) sc_knots_of.nd rfl (Or.inr rfl)) (pgs_cons (pg_name (i := 4) sc_knots_of.nd rfl (Or.inl rfl)) pgs_nil)))) (pss_cons (ps_lock (ps_for PassesOwn.never rfl (pi_keys (pv 2)) (pg_name (i := 1) sc_knots_of.nd rfl (Or.inl rfl)) (pss_one (ps_if (pt_cmp (pc_dnotin (hu_of hr) (pv 1) (pv 3))) (pss_cons (ps_lock (ps_for PassesOwn.never rfl (pi_keys (pe_dget (hu_of hr) (pv 2) (pv 1) (fun _ _ => rfl))) (pg_name (i := 5) sc_knots_of.nd rfl (Or.inl rfl)) (pss_one (ps_if (pt_cmp (pc_din (hu_of hr) (pv 1) (pe_dget (hu_of hr) (pv 2) (pv 5) (fun _ _ => rfl)))) (pss_one (ps_dput (hu_of hr) (pv 3) (pv 5) (pe_callB (call_lenK (K := K)) (by rfl) T.b_len PySem.boot_len (pa_cons (pv 4) pa_nil)) rfl)) pss_nil)))) (pss_one (ps_expr (pe_bmK (K := K) PySem.F.plainAttrs_list PySem.F.slot_list_append PySem.F.type_list_append mt_append (pv 4) (pa_cons (pv 1) pa_nil))))) pss_nil)))) (pss_one (ps_ret (pe_tup (pa_cons (pv 3) (pa_cons (pe_lc (own := [("first", 6)]) (g := gName 6) (tt := tYes) rfl sc_knots_of.nd (pi_listK (K := K) (pv 4)) (blkOk_by (own := [("first", 6)]) (N := n_knots_of) (sc := defScope s_knots_of) (by decide +kernel)) (fun _ _ _ _ _ => pg_name (i := 6) sc_knots_of.nd rfl (Or.inl rfl)) (fun _ _ _ _ _ => pts_nil) (fun _ _ _ _ _ => (pe_lock (pe_dc (own := [("spot", 1)]) (g := gName 1) (tt := tYes) rfl sc_knots_of.nd (pi_keys (pe_dget (hu_of hr) (pv 2) (pv 6) (fun _ _ => rfl))) (blkOk_in (own := [("spot", 1)]) (N := n_knots_of) (by decide +kernel)) (fun _ _ _ _ _ => pg_name (i := 1) sc_knots_of.nd rfl (Or.inl rfl)) (fun _ _ _ _ _ => pts_nil) (fun _ _ _ _ _ => (pe_dget (hu_of hr) (pv 3) (pv 1) (fun _ _ => rfl))) (fun _ _ _ _ _ => pe_bl))))) pa_nil)))))))), ?_⟩
    have few := hw.few
    have plen := places_len ws
    have s0 : 0 ≤ sizeLine := sz_of (by omega)
    have s2 : 2 ≤ sizeLine := sz_of (by omega)
    refine ⟨_, rfl, v, n, ws, rfl, hB, fun x hx => (hw.wd x hx).2, hw.few, fun pv H2 e2 hp => ?_⟩
    obtain ⟨pa, rfl, hpa⟩ := dp_strsL hp
    refine ⟨pa, rfl, ⟨_, hpa⟩, fun E nE => ?_⟩
    refine dc_refs (src_list hpa) (places_asc ws).nodup (by omega) (fun z o => ∃ ks, o = .dK (trues ks) ∧ ks.Nodup ∧ ∀ q, q ∈ ks ↔ Rch (nxts ws) z q) nE (fun z H3 C Z hz e3 hC => ?_) (fun H3 rs e3 hE hfl => ?_)
    · refine ⟨rfl, lc_yes ⟨_, rfl, _, rfl, _, rfl, v, n, ws, z, rfl, dp_ex (e2.trans e3) hB, hw, places_mem.mp hz, fun d H4 ks e4 nd0 nd mem hd => hC d _ H4 e4 nd0 hd ⟨ks, rfl, nd, mem⟩⟩⟩
    have e03 := e2.trans e3
    clear hpa e3 hp
    intro L nL
    refine ⟨s0, fun F nF => ⟨s2, fun T1 nT1 => ⟨T1, _, rfl, SqT.of upd_same, rfl, _, _, rfl, _, _, rfl, rfl, ?_⟩⟩⟩
    have e3' : Ex H3 (upd (upd (upd H3 L (.dK [])) F (.lst [])) T1 (.tup [.ref L, .ref F])) := ((Ex.new nL).trans (Ex.new nF)).trans (Ex.new nT1)
    have hL0 : (upd (upd (upd H3 L (.dK [])) F (.lst [])) T1 (.tup [.ref L, .ref F])) L = some (.dK []) := ((Ex.new nF).trans (Ex.new nT1)) _ _ upd_same
    have hF0 : (upd (upd (upd H3 L (.dK [])) F (.lst [])) T1 (.tup [.ref L, .ref F])) F = some (.lst []) := (Ex.new nT1) _ _ upd_same
    have LF : L ≠ F := ne_of_none upd_same nF
    have nF3 : H3 F = none := by
      rw [upd_ne LF.symm] at nF
      exact nF
    clear nT1 nF
    generalize upd (upd (upd H3 L (.dK [])) F (.lst [])) T1 (.tup [.ref L, .ref F]) = H4 at e3' hL0 hF0
    have EL : E ≠ L := ne_of_none hE nL
    have EF : E ≠ F := ne_of_none hE nF3
    have rowOf : ∀ {z : Str}, z ∈ places ws → ∃ kz, H3 (rs z) = some (.dK (trues kz)) ∧ kz.Nodup ∧ (∀ q, q ∈ kz ↔ Rch (nxts ws) z q) ∧ rs z ≠ E ∧ kz.length ≤ 2 * ws.length := fun {z} hz => by
      obtain ⟨ne, o, ho, kz, rfl, nd, mem⟩ := hfl z hz
      refine ⟨kz, ho, nd, mem, ne, ?_⟩
      have := nodup_len nd (l := places ws) fun y hy => places_mem.mpr (rch_plc (places_mem.mp hz) ((mem y).mp hy))
      omega
    refine lk_fo (f := fun z => V.ref (rs z)) (ks := places ws) (e3' _ _ hE) (fun od R r => ⟨_, rfl, r⟩)
      (fun od i σ H' => ∃ (ks fs : List Str) (lt : Str → Nat) (x1 x5 : Option V), σ = [some v, x1, some (.ref E), some (.ref L), some (.ref F), x5, none] ∧ Ex (upd H3 E (.frz od (.dK (wkv rs (places ws))))) H' ∧ LotAt H' L ks lt ∧ H' F = some (.lst (fs.map V.str)) ∧ Kn ws ks fs lt ∧ ∀ p ∈ (places ws).take i, p ∈ ks)
      (fun od => ⟨[], [], fun _ => 0, none, none, rfl, ex_lock e3', by show (upd H4 E _) L = _; rw [upd_ne EL.symm]; exact hL0, by rw [upd_ne EF.symm]; exact hF0, .start _, fun p hp => (List.not_mem_nil hp).elim⟩)
      (fun od i σ H' ⟨_, _, _, _, _, _, e, _⟩ => e _ _ upd_same) ?_ ?_
    · rintro od i z σ H' hi ⟨ks, fs, lt, x1, x5, rfl, e, hL, hF, kn, tk⟩
      have zp : z ∈ places ws := List.mem_of_getElem? hi
      obtain ⟨kz, hkz, ndz, memz, nez, lkz⟩ := rowOf zp
      have zpl := places_mem.mp zp
      have hE' := e _ _ upd_same
      have tk2 : ∀ {ks' : List Str}, z ∈ ks' → (∀ p ∈ ks, p ∈ ks') → ∀ p ∈ (places ws).take (i + 1), p ∈ ks' := fun {ks'} h1 h2 p hp => by
        rw [take_snoc hi] at hp
        rcases List.mem_append.mp hp with hp | hp
        · exact h2 p (tk p hp)
        · rw [List.mem_singleton.mp hp]
          exact h1
      refine ⟨_, rfl, _, rfl, L, _, rfl, DGet.k (k := kS z) hL, _, rfl, ?_⟩
      by_cases hin : z ∈ ks
      · rw [show (!(valV (fkv (fun z => V.int (lt z : Int)) ks) (kS z)).isSome) = false by rw [fkv_in, decide_eq_true hin]; rfl]
        exact iteF ⟨ks, fs, lt, _, _, rfl, e, hL, hF, kn, tk2 hin fun _ h => h⟩
      rw [show (!(valV (fkv (fun z => V.int (lt z : Int)) ks) (kS z)).isSome) = true by rw [fkv_in, decide_eq_false hin]; rfl]
      have kslen : ks.length ≤ 2 * ws.length := by
        have := nodup_len kn.nd (l := places ws) fun y hy => places_mem.mpr (kn.on y hy).1
        omega
      have getE : ∀ {H6 : Hp}, Rd H6 E (.dK (wkv rs (places ws))) → ∀ y ∈ places ws, DGet H6 E (.str y) (some (.ref (rs y))) := fun {H6} h y hy => by
        rw [← wkv_val (rs := rs) hy]
        exact rd_get (k := kS y) h
      have rowb : ∀ {y : Str}, y ∈ places ws → ∀ {o : HO}, H3 (rs y) = some o → (upd H3 E (.frz od (.dK (wkv rs (places ws))))) (rs y) = some o := fun {y} hy {o} h => by
        rw [upd_ne (hfl y hy).1]
        exact h
      have hbz := rowb zp hkz
      have nLb : (upd H3 E (.frz od (.dK (wkv rs (places ws))))) L = none := by rw [upd_ne EL.symm]; exact nL
      have nFb : (upd H3 E (.frz od (.dK (wkv rs (places ws))))) F = none := by rw [upd_ne EF.symm]; exact nF3
      have zL : rs z ≠ L := ne_of_none hkz nL
      have zF : rs z ≠ F := ne_of_none hkz nF3
      have l2 : ∀ y ∈ ks, V.int (lt y : Int) = V.int (lt2 ws z fs.length lt y : Int) := fun y hy => by rw [kn.keep hin hy]
      have hL' : LotAt H' L ks (lt2 ws z fs.length lt) := by
        have := hL
        unfold LotAt at this ⊢
        rw [this, fkv_congr l2]
      refine iteT (lk_fo (f := fun _ => V.bl true) (ks := kz) (e _ _ hbz) (fun od2 R r => ⟨_, rfl, _, rfl, E, _, rfl, getE (.inr ⟨od, by rw [upd_ne nez.symm]; exact hE'⟩) z zp, r⟩)
        (fun od2 j σ H'' => ∃ (x5 : Option V), σ = [some v, some (.str z), some (.ref E), some (.ref L), some (.ref F), x5, none] ∧ Ex (upd (upd H3 E (.frz od (.dK (wkv rs (places ws))))) (rs z) (.frz od2 (.dK (trues kz)))) H'' ∧ LotAt H'' L (ks ++ (kz.take j).filter (muB ws z)) (lt2 ws z fs.length lt) ∧ H'' F = some (.lst (fs.map V.str)))
        (fun od2 => ⟨x5, rfl, ex_lock e, by show (upd H' (rs z) _) L = _; rw [upd_ne zL.symm, List.take_zero, List.filter_nil, List.append_nil]; exact hL', by rw [upd_ne zF.symm]; exact hF⟩)
        (fun od2 j σ H'' ⟨_, _, e, _⟩ => e _ _ upd_same) ?_ ?_)
      · rintro od2 j y σ H'' hj ⟨x5, rfl, e2, hL2, hF2⟩
        have yk : y ∈ kz := List.mem_of_getElem? hj
        have ry := (memz y).mp yk
        have yp : y ∈ places ws := places_mem.mpr (rch_plc zpl ry)
        obtain ⟨ky, hky, ndy, memy, ney, _⟩ := rowOf yp
        have hE2 : H'' E = some (.frz od (.dK (wkv rs (places ws)))) := e2 _ _ (by rw [upd_ne nez.symm, upd_same])
        have rdy : Rd H'' (rs y) (.dK (trues ky)) := by
          by_cases hyz : rs y = rs z
          · rw [hyz] at hky ⊢
            rw [hkz] at hky
            rw [← HO.dK.inj (Option.some.inj hky)]
            exact .inr ⟨od2, e2 _ _ upd_same⟩
          · exact .inl (e2 _ _ (by rw [upd_ne hyz]; exact rowb yp hky))
        have tkj : kz.take (j + 1) = kz.take j ++ [y] := take_snoc hj
        refine ⟨_, rfl, _, rfl, _, rfl, E, _, rfl, getE (.inr ⟨od, hE2⟩) y yp, _, _, rfl, rd_get (k := kS z) rdy, _, rfl, ?_⟩
        rw [trues_in]
        by_cases hz : z ∈ ky
        · have mz : muB ws z y = true := muB_iff.mpr ⟨ry, (memy z).mp hz⟩
          rw [decide_eq_true hz]
          have ll : (fkv (fun z_1 => V.int (lt2 ws z fs.length lt z_1 : Int)) (ks ++ (kz.take j).filter (muB ws z))).length ≤ 10000 := by
            rw [fkv_len, List.length_append]
            have h1 := List.length_filter_le (muB ws z) (kz.take j)
            have h2 := (List.take_sublist j kz).length_le
            omega
          refine iteT ⟨_, rfl, F, _, rfl, .inl (SqL.of hF2), _, rfl, _, rfl, L, _, rfl, DPut.k (k := kS y) hL2 (sz_lt (by omega)), ?_⟩
          have nLc : (upd (upd H3 E (.frz od (.dK (wkv rs (places ws))))) (rs z) (.frz od2 (.dK (trues kz)))) L = none := by rw [upd_ne zL.symm]; exact nLb
          refine ⟨_, rfl, Ex.mut e2 nLc, ?_, by rw [upd_ne LF.symm]; exact hF2⟩
          show (upd H'' L _) L = _
          rw [upd_same, tkj, List.filter_append, List.filter_cons_of_pos mz, List.filter_nil, ← List.append_assoc]
          have ynew : y ∉ ks ++ (kz.take j).filter (muB ws z) := fun h => by
            rcases List.mem_append.mp h with h | h
            · exact kn.far hin h (muB_iff.mp mz)
            · have h2 : (kz.take (j + 1)).Nodup := (List.take_sublist _ _).nodup ndz
              rw [tkj] at h2
              exact (List.nodup_append.mp h2).2.2 y (List.mem_filter.mp h).1 y (List.mem_singleton.mpr rfl) rfl
          have e5 : lt2 ws z fs.length lt y = fs.length := by
            unfold lt2
            rw [if_pos mz]
          rw [List.length_map, lot_put e5, addS, if_neg ynew]
        · have mz : ¬ muB ws z y = true := fun h => hz ((memy z).mpr (muB_iff.mp h).2)
          rw [decide_eq_false hz]
          refine iteF ⟨_, rfl, e2, ?_, hF2⟩
          rw [tkj, List.filter_append, List.filter_cons_of_neg mz, List.filter_nil, List.append_nil]
          exact hL2
      · rintro od2 σ H'' ⟨x5, rfl, e2, hL2, hF2⟩
        rw [List.take_length] at hL2
        have eb := unlock_ex hbz e2
        have hF3 : (upd H'' (rs z) (.dK (fkv (fun _ => V.bl true) kz))) F = some (.lst (fs.map V.str)) := by rw [upd_ne zF.symm]; exact hF2
        have fsl : fs.length ≤ 2 * ws.length := by
          have := kn.fs_len
          omega
        refine ⟨_, rfl, .inl ⟨rfl, _, SqL.of hF3⟩, _, rfl, F, _, _, rfl, rfl, hF3, sz_lt (by rw [List.length_map]; omega), ?_⟩
        have kn2 := kn.step hin zpl ndz memz
        refine ⟨_, fs ++ [z], _, _, _, rfl, Ex.mut eb nFb, ?_, by rw [upd_same, List.map_append]; rfl, kn2, tk2 ?_ fun p hp => List.mem_append_left _ hp⟩
        · show (upd (upd H'' (rs z) _) F _) L = _
          rw [upd_ne LF, upd_ne zL.symm]
          exact hL2
        · exact (kn2.cl fs.length z (by rw [List.getElem?_append_right (Nat.le_refl _), Nat.sub_self]; rfl) z .rf).1
    · rintro od σ H' ⟨ks, fs, lt, x1, x5, rfl, e, hL, hF, kn, tk⟩
      rw [List.take_length] at tk
      have all : ∀ p ∈ plcs ws, p ∈ ks := fun p hp => tk p (places_mem.mpr hp)
      have e4 : Ex H3 (upd H' E (.dK (fkv (fun z => V.ref (rs z)) (places ws)))) := unlock_ex hE e
      have hL4 : LotAt (upd H' E (.dK (fkv (fun z => V.ref (rs z)) (places ws)))) L ks lt := by
        show (upd H' E _) L = _
        rw [upd_ne EL.symm]
        exact hL
      have hF4 : (upd H' E (.dK (fkv (fun z => V.ref (rs z)) (places ws)))) F = some (.lst (fs.map V.str)) := by
        rw [upd_ne EF.symm]
        exact hF
      have hE4 : (upd H' E (.dK (fkv (fun z => V.ref (rs z)) (places ws)))) E = some (.dK (wkv rs (places ws))) := upd_same
      have fl := kn.fs_len
      have kslen : ks.length ≤ 2 * ws.length := by
        have := nodup_len kn.nd (l := places ws) fun y hy => places_mem.mpr (kn.on y hy).1
        omega
      have L0 := kn.lt all
      generalize upd H' E (.dK (fkv (fun z => V.ref (rs z)) (places ws))) = H5 at e4 hL4 hF4 hE4
      refine ⟨_, rfl, _, rfl, F, rfl, ⟨_, SqL.of hF4⟩, fun D nD => ?_⟩
      refine lc_gen (src_list (K := K) (SqL.of hF4)) (by rw [List.length_map]; omega) nD (fun _ => true) (fun i v H => RowI H (lle ws lt i) v) (fun i v H H' h e => h.ex e) (fun i v H acc acc' hD h => h.mut hD) (fun i x H6 Y Z hi e6 it hy _ => ?_) (fun H6 acc e6 hD ha => ?_)
      · obtain ⟨f, hf, rfl⟩ := str_at it
        have fp := places_mem.mpr (kn.pl f (List.mem_of_getElem? hf))
        obtain ⟨kz, hkz, ndz, memz, nez, lkz⟩ := rowOf fp
        have hk6 := (e4.trans e6) _ _ hkz
        have hE6 := e6 _ _ hE4
        refine ⟨rfl, lc_yes ⟨rs f, _, hk6, trivial, fun od => ⟨_, rfl, _, rfl, E, .ref (rs f), rfl, ?_, rs f, od, rfl, .inl ⟨_, upd_same, fun D2 nD2 => ?_⟩⟩⟩⟩
        · rw [← wkv_val (rs := rs) fp]
          refine DGet.k (k := kS f) ?_
          rw [upd_ne nez.symm]
          exact hE6
        have nD6 : H6 D2 = none := by
          rw [upd_ne fun e => by rw [e, upd_same] at nD2; cases nD2] at nD2
          exact nD2
        refine dc_truI (src_keys (f := fun _ => V.bl true) (ks := kz) upd_same) (by omega) (fun _ => true) (fun i => lt (atS kz i)) nD2 (fun i x H7 C Z hi e7 it hc _ => ?_) (fun H7 e7 hD2 => ?_)
        · obtain ⟨y, hy7, rfl⟩ := it
          rw [atS_of hy7] at hc
          have yk := all y (rch_plc (places_mem.mp fp) ((memz y).mp (List.mem_of_getElem? hy7)))
          refine ⟨rfl, lc_yes ⟨_, rfl, _, rfl, L, _, rfl, ?_, hc rfl _ (Ex.refl _)⟩⟩
          have hL7 : H7 L = some (.dK (fkv (fun z => V.int (lt z : Int)) ks)) := e7 _ _ (by
            rw [upd_ne (ne_of_none hkz nL).symm]
            exact e6 _ _ hL4)
          have := DGet.k (k := kS y) hL7
          rw [fkv_val yk] at this
          exact this
        · have h7 := e7 _ _ upd_same
          have D2f : D2 ≠ rs f := fun e => by
            rw [e, hk6] at nD6
            cases nD6
          refine ⟨h7, hy rfl _ _ (unlock_ex hk6 e7) ⟨D2, _, rfl, by rw [upd_ne D2f]; exact hD2, dedN_nd _, fun j => ?_⟩⟩
          rw [dedN_mem, filter_true, show (List.range kz.length).map (fun i => lt (atS kz i)) = kz.map lt from by rw [show (fun i => lt (atS kz i)) = lt ∘ atS kz from rfl, ← List.map_map, range_atS]]
          exact kn.row all hf memz j
      · rw [filter_true] at ha
        rw [List.length_map] at ha
        refine ⟨s2, fun T2 nT2 => ?_⟩
        have x2 := Ex.new (o := .tup [.ref L, .ref D]) nT2
        have eo : Ex H5 (upd H6 T2 (.tup [.ref L, .ref D])) := e6.trans x2
        refine q T2 L D ks lt fs.length _ (e03.trans (e4.trans eo)) upd_same (eo _ _ hL4) kn.nd (fun p => ⟨fun h => (kn.on p h).1, all p⟩) L0 fl ?_
        exact (onw_two hD ha).ex x2
def sp_turned_about (K : PySem.W.Frag) : Sp := fun vs H Q _ => ∃ (a : Addr) (m : Nat) (le : Nat → Nat → Prop), vs = [.ref a] ∧ Onw H a m le ∧ Po m le ∧ m ≤ 10000 ∧ ∀ b H', Ex H H' → Onw H' b m (flip2 le) → Q (.ref b) H'
theorem row_in {H : Hp} {P : Nat → Prop} {r : Addr} (h : RowI H P (.ref r)) (j : Nat) : ∃ o, DGet H r (.int j) o ∧ (o.isSome = true ↔ P j) := by
  obtain ⟨r', ks, e, h1, h2, h3⟩ := h
  cases e
  refine ⟨_, DGet.k (k := kI j) h1, ?_⟩
  rw [truG_in kI_inj, decide_eq_true_iff]
  exact h3 j
theorem onw_at {K : PySem.W.Frag} {H : Hp} {a : Addr} {m : Nat} {le : Nat → Nat → Prop} (h : Onw H a m le) : ∃ acc, SqL K H a acc ∧ acc.length = m ∧ ∀ i, i < m → ∃ r, atI acc (i : Int) = some (.ref r) ∧ RowI H (le i) (.ref r) := by
  obtain ⟨acc, h1, h2, h3⟩ := h
  refine ⟨acc, SqL.of h1, h2, fun i hi => ?_⟩
  obtain ⟨v, h4, r, ks, rfl, h5⟩ := h3 i hi
  exact ⟨r, atI_of rfl h4, r, ks, rfl, h5⟩
theorem ok_turned_about (T : Tx K mg) : Ok P w K mg base CX0 1 "turned_about" ["onward"] (sp_turned_about K) := by
  refine T.d_turned_about.ok sc_turned_about (fun vs H Q E h => ?_) (fun f cdv A outer s H vs Q E hG hr h => ?_)
  · obtain ⟨a, m, le, rfl, _⟩ := h
    rfl
  · obtain ⟨a, m, le, rfl, O, P0, hm, q⟩ := h
    refine ⟨_, (pss_cons (ps_set (i := 1) sc_turned_about.nd rfl (Or.inr rfl) (pe_callTy cr_range1 (by rfl) T.b_range (by decide +kernel) (pa_cons (pe_callB (call_lenK (K := K)) (by rfl) T.b_len PySem.boot_len (pa_cons (pv 0) pa_nil)) pa_nil))) (pss_one (ps_ret (pe_lc (own := [("lot", 2)]) (g := gName 2) (tt := tYes) rfl sc_turned_about.nd (pi_rng (pv 1)) (blkOk_by (own := [("lot", 2)]) (N := n_turned_about) (sc := defScope s_turned_about) (by decide +kernel)) (fun _ _ _ _ _ => pg_name (i := 2) sc_turned_about.nd rfl (Or.inr rfl)) (fun _ _ _ _ _ => pts_nil) (fun _ _ _ _ _ => (pe_dc (own := [("other", 3)]) (g := gName 3) rfl sc_turned_about.nd (pi_rng (pv 1)) (blkOk_in (own := [("other", 3)]) (N := n_turned_about) (by decide +kernel)) (fun _ _ _ _ _ => pg_name (i := 3) sc_turned_about.nd rfl (Or.inl rfl)) (fun _ _ _ _ _ => pts_one (pt_cmp (pc_din (hu_of hr) (pv 2) (pe_ix (ix_listK (K := K)) (pv 0) (pv 3) (fun _ _ => rfl))))) (fun _ _ _ _ _ => (pv 3)) (fun _ _ _ _ _ => pe_bl))))))), ?_⟩
    obtain ⟨acc, hA, hl, hat⟩ := onw_at (K := K) O
    refine ⟨_, rfl, a, acc, rfl, .inl hA, _, rfl, fun R nR => ⟨_, rfl, R, 0, _, rfl, upd_same, ⟨by omega, by omega, by omega, by omega⟩, fun D nD => ?_⟩⟩
    have eR := Ex.new (o := .rng 0 (acc.length : Int)) nR
    have hto : ((acc.length : Int) - 0).toNat = m := by omega
    rw [hto]
    classical
    refine lc_gen src_rng (by omega) nD (fun _ => true) (fun i v H => RowI H (flip2 le i) v) (fun i v H H' h e => h.ex e) (fun i v H acc acc' hD h => h.mut hD) (fun i x H6 Y Z hi e6 it hy _ => ?_) (fun H6 acc e6 hD ha => ?_)
    · subst it
      refine ⟨rfl, lc_yes ⟨_, rfl, R, 0, _, rfl, e6 _ _ upd_same, ⟨by omega, by omega, by omega, by omega⟩, fun D2 nD2 => ?_⟩⟩
      rw [hto]
      refine dc_truI src_rng (by omega) (fun j => decide (le j i)) (fun j => j) nD2 (fun j x H7 C Z hj e7 it hc hn => ?_) (fun H7 e7 hD2 => ?_)
      · subst it
        have e17 := (eR.trans e6).trans e7
        obtain ⟨r, h1, h2⟩ := hat j hj
        obtain ⟨o, h3, h4⟩ := row_in (h2.ex e17) i
        refine ⟨rfl, _, rfl, _, rfl, _, rfl, a, acc, _, _, rfl, rfl, ex_l e17 hA, by rw [Int.zero_add]; exact h1, r, o, rfl, by rw [Int.zero_add]; exact h3, _, rfl, ?_⟩
        by_cases hle : le j i
        · rw [h4.mpr hle]
          refine iteT ⟨_, rfl, ?_⟩
          show C (.int (0 + (j : Int))) (.bl true) _
          rw [Int.zero_add]
          exact hc (decide_eq_true hle) _ (Ex.refl _)
        · rw [Bool.eq_false_iff.mpr fun h => hle (h4.mp h)]
          exact iteF (hn (decide_eq_false hle) _ (Ex.refl _))
      · refine hy rfl _ _ e7 ⟨D2, _, rfl, hD2, dedN_nd _, fun j => ?_⟩
        rw [dedN_mem, List.map_id', List.mem_filter, List.mem_range, decide_eq_true_iff]
        exact ⟨fun h => h.2, fun h => ⟨(P0.lt _ _ h).1, h⟩⟩
    · rw [filter_true] at ha
      exact q D H6 (eR.trans e6) (onw_two hD ha)
end

/-! ### what arcs let come to -/
section
variable {P : Program} {w : World} {K : PySem.W.Frag} {mg : Str → Option Value} {base : Heap}
theorem sqL_put {H : Hp} {p a : Addr} {kvs : List (Key × V)} {u : HO} {xs : List V} (hp : H p = some (.dK kvs)) (h : SqL K H a xs) : SqL K (upd H p u) a xs := by
  have ne : ∀ {w : HO}, H a = some w → w ≠ .dK kvs → (upd H p u) a = some w := fun {w} hw n => by
    rw [upd_ne fun e => n (by rw [e, hp] at hw; exact (Option.some.inj hw).symm)]
    exact hw
  unfold SqL at h ⊢
  first
    | exact h.elim (fun q => .inl (q.elim (fun q => .inl (ne q (fun z => nomatch z))) fun ⟨ob, q⟩ => .inr ⟨ob, ne q (fun z => by cases z)⟩)) fun q => .inr q
    | exact h.elim (fun q => .inl (ne q (fun z => nomatch z))) fun q => .inr q
def sp_come_to (K : PySem.W.Frag) : Sp := fun vs H Q _ => ∃ (a b : Addr) (m : Nat) (le : Nat → Nat → Prop) (p1 p2 : Nat × Nat), vs = [.ref a, .ref b] ∧ Onw H a m le ∧ Po m le ∧ 0 < m ∧ m ≤ 10000 ∧ ArcsAt H b [p1, p2] ∧ p1.2 < m ∧ p2.2 < m ∧
  ∀ (k : Nat) H', Ex H H' → (k = m ↔ ∀ j, j < m → Com le p1.1 p1.2 p2.1 p2.2 j) → Q (.int k) H'
theorem ok_come_to (T : Tx K mg) : Ok P w K mg base CX0 1 "come_to" ["onward", "arcs"] (sp_come_to K) := by
  refine T.d_come_to.ok sc_come_to (fun vs H Q E h => ?_) (fun f cdv A outer s H vs Q E hG hr h => ?_)
  · obtain ⟨a, b, m, le, p1, p2, rfl, _⟩ := h
    rfl
  · obtain ⟨a, b, m, le, p1, p2, rfl, O, P0, m0, hm, hB, l1, l2, q⟩ := h
    refine ⟨_, (pss_cons (ps_set (i := 2) sc_come_to.nd rfl (Or.inl rfl) (pe_callTy call_dictD (by rfl) T.b_dict (by decide +kernel) (pa_cons (pe_ix (ix_listK (K := K)) (pv 0) pe_int (fun _ _ => rfl)) pa_nil))) (pss_cons (ps_for PassesOwn.never rfl (pi_range1 (by rfl) T.b_range (pa_cons (pe_callB (call_lenK (K := K)) (by rfl) T.b_len PySem.boot_len (pa_cons (pv 1) pa_nil)) pa_nil)) (pg_name (i := 3) sc_come_to.nd rfl (Or.inl rfl)) (pss_one (ps_for PassesOwn.never rfl (pi_listK (K := K) (pv 1)) (pg_tup rfl (pgs_cons (pg_name (i := 4) sc_come_to.nd rfl (Or.inl rfl)) (pgs_cons (pg_name (i := 5) sc_come_to.nd rfl (Or.inl rfl)) pgs_nil))) (pss_one (ps_if (pt_cmp (pc_din (hu_of hr) (pv 4) (pv 2))) (pss_one (ps_lock (ps_for PassesOwn.never rfl (pi_keys (pe_ix (ix_listK (K := K)) (pv 0) (pv 5) (fun _ _ => rfl))) (pg_name (i := 6) sc_come_to.nd rfl (Or.inl rfl)) (pss_one (ps_dput (hu_of hr) (pv 2) (pv 6) pe_bl rfl))))) pss_nil))))) (pss_one (ps_ret (pe_callB call_lenD (by rfl) T.b_len PySem.boot_len (pa_cons (pv 2) pa_nil)))))), ?_⟩
    obtain ⟨acc, hA, hl, hat⟩ := onw_at (K := K) O
    obtain ⟨bcc, hB1, hB2⟩ := hB
    have bl : bcc.length = 2 := hB2.len
    obtain ⟨r0, h00, r0', k0, e0, h01, h02, h03⟩ := hat 0 m0
    cases e0
    refine ⟨_, rfl, a, acc, _, _, rfl, rfl, hA, h00, r0, _, rfl, .inl h01, fun F nF => ?_⟩
    have eF := Ex.new (o := .dK (truI k0)) nF
    refine ⟨_, rfl, b, bcc, rfl, .inl (ex_l eF (SqL.of hB1)), _, rfl, by omega, by omega, ?_⟩
    have hto : ((bcc.length : Nat) : Int).toNat = 2 := by omega
    rw [hto]
    have klen : ∀ {ks : List Nat} {t : Nat}, ks.Nodup → (∀ j, j ∈ ks ↔ Fst le p1.1 p1.2 p2.1 p2.2 t j) → ks.length ≤ m := fun {ks t} nd mem => by
      have := nodup_len nd (l := List.range m) fun y hy => List.mem_range.mpr (fst_lt P0 ((mem y).mp hy))
      rw [List.length_range] at this
      exact this
    refine fo_rng (fun t σ H' => ∃ x3 x4 x5 x6 ks, σ = [some (.ref a), some (.ref b), some (.ref F), x3, x4, x5, x6] ∧ Ex H H' ∧ H' F = some (.dK (truI ks)) ∧ ks.Nodup ∧ ∀ j, j ∈ ks ↔ Fst le p1.1 p1.2 p2.1 p2.2 (2 * t) j) ?_ ?_ ?_
    · exact ⟨_, _, _, _, k0, rfl, eF, upd_same, h02, h03⟩
    · rintro t σ H1 ht ⟨x3, x4, x5, x6, ks, rfl, e, hF, nd, mem⟩
      refine ⟨_, rfl, b, rfl, fo_lst (Hb := H) (SqL.of hB1) (fun s σ H' => ∃ x4 x5 x6 ks, σ = [some (.ref a), some (.ref b), some (.ref F), some (.int (0 + (t : Int))), x4, x5, x6] ∧ Ex H H' ∧ H' F = some (.dK (truI ks)) ∧ ks.Nodup ∧ ∀ j, j ∈ ks ↔ Fst le p1.1 p1.2 p2.1 p2.2 (2 * t + s) j)
        ⟨_, _, _, ks, rfl, e, hF, nd, mem⟩ (fun s σ H' ⟨_, _, _, _, _, e, _⟩ => e) ?_ ?_⟩
      · rintro s x σ H2 hs ⟨x4, x5, x6, ks, rfl, e, hF, nd, mem⟩
        have hs2 : s < 2 := by
          have := (List.getElem?_eq_some_iff.mp hs).1
          omega
        obtain ⟨p, hp, t1, rfl, ht1⟩ := hB2.at hs
        have nx : ∀ j, Fst le p1.1 p1.2 p2.1 p2.2 (2 * t + (s + 1)) j ↔ Fst le p1.1 p1.2 p2.1 p2.2 (2 * t + s) j ∨ (Fst le p1.1 p1.2 p2.1 p2.2 (2 * t + s) p.1 ∧ le p.2 j) := fun j => by
          have e1 : 2 * t + (s + 1) = (2 * t + s) + 1 := rfl
          rw [e1]
          match s, hs2, hp with
          | 0, _, hp =>
            cases hp
            show Fst _ _ _ _ _ _ _ ∨ (if (2 * t + 0) % 2 = 0 then _ else _) ↔ _
            rw [if_pos (by omega)]
            exact Iff.rfl
          | 1, _, hp =>
            cases hp
            show Fst _ _ _ _ _ _ _ ∨ (if (2 * t + 1) % 2 = 0 then _ else _) ↔ _
            rw [if_neg (by omega)]
        have pl : p.2 < m := by
          match s, hs2, hp with
          | 0, _, hp => cases hp; exact l1
          | 1, _, hp => cases hp; exact l2
        have kl := klen nd mem
        refine ⟨t1, _, rfl, SqT.of (e _ _ ht1), rfl, _, _, rfl, _, _, rfl, rfl, ?_⟩
        refine ⟨_, rfl, _, rfl, F, _, rfl, DGet.k (k := kI p.1) hF, ?_⟩
        rw [truG_in kI_inj]
        refine ⟨_, rfl, ?_⟩
        by_cases hin : p.1 ∈ ks
        · rw [decide_eq_true hin]
          obtain ⟨r, hr1, r', kr, er, hr2, hr3, hr4⟩ := hat p.2 pl
          cases er
          have Fr : F ≠ r := (ne_of_none hr2 nF).symm
          refine iteT (lk_foI (e _ _ hr2) (fun od R h => ⟨_, rfl, _, rfl, a, acc, _, _, rfl, rfl, ?_, hr1, h⟩)
            (fun od i σ H3 => ∃ x6 ks', σ = [some (.ref a), some (.ref b), some (.ref F), some (.int (0 + (t : Int))), some (.int p.1), some (.int p.2), x6] ∧ Ex (upd H r (.frz od (.dK (truI kr)))) H3 ∧ H3 F = some (.dK (truI ks')) ∧ ks'.Nodup ∧ ∀ j, j ∈ ks' ↔ j ∈ ks ∨ j ∈ kr.take i)
            (fun od => ⟨x6, ks, rfl, ex_lock e, by rw [upd_ne Fr]; exact hF, nd, fun j => by rw [List.take_zero]; exact ⟨.inl, fun h => h.resolve_right List.not_mem_nil⟩⟩)
            (fun od i σ H3 ⟨_, _, _, e, _⟩ => e _ _ upd_same) ?_ ?_)
          · exact sqL_put (e _ _ hr2) (ex_l e hA)
          · rintro od i j σ H3 hj ⟨x6, ks', rfl, e3, hF3, nd3, mem3⟩
            have kl3 : ks'.length ≤ m := by
              have := nodup_len nd3 (l := List.range m) fun y hy => List.mem_range.mpr (by
                rcases (mem3 y).mp hy with h | h
                · exact fst_lt P0 ((mem y).mp h)
                · exact (P0.lt _ _ ((hr4 y).mp (List.mem_of_mem_take h))).2)
              rw [List.length_range] at this
              exact this
            have Fr2 : (upd H r (.frz od (.dK (truI kr)))) F = none := by rw [upd_ne Fr]; exact nF
            refine ⟨_, rfl, _, rfl, F, _, rfl, DPut.k (k := kI j) hF3 (sz_lt (by rw [truG_len]; omega)), ?_⟩
            refine ⟨_, addN ks' j, rfl, Ex.mut e3 Fr2, by rw [upd_same, truG_add kI_inj], addN_nd nd3 j, fun y => ?_⟩
            rw [addN_mem, mem3, take_snoc hj, List.mem_append, List.mem_singleton, or_assoc]
          · rintro od σ H3 ⟨x6, ks', rfl, e3, hF3, nd3, mem3⟩
            refine ⟨_, _, _, ks', rfl, unlock_ex hr2 e3, by rw [upd_ne Fr]; exact hF3, nd3, fun j => ?_⟩
            rw [mem3, List.take_length, nx, mem, hr4]
            exact ⟨fun h => h.elim .inl fun h => .inr ⟨(mem _).mp hin, h⟩, fun h => h.elim .inl fun h => .inr h.2⟩
        · rw [decide_eq_false hin]
          refine iteF ⟨_, _, _, ks, rfl, e, hF, nd, fun j => ?_⟩
          rw [nx, mem]
          exact ⟨.inl, fun h => h.elim id fun h => absurd ((mem _).mpr h.1) hin⟩
      · rintro σ H2 ⟨x4, x5, x6, ks, rfl, e, hF, nd, mem⟩
        rw [bl] at mem
        exact ⟨_, _, _, _, ks, rfl, e, hF, nd, mem⟩
    · rintro σ H1 ⟨x3, x4, x5, x6, ks, rfl, e, hF, nd, mem⟩
      refine ⟨_, rfl, F, _, rfl, hF, ?_⟩
      refine q _ _ e ?_
      rw [truG_len, all_len nd fun j hj => fst_lt P0 ((mem j).mp hj)]
      refine forall_congr' fun j => imp_congr Iff.rfl ?_
      rw [mem, fst_four P0]
def sp_hangs_by (K : PySem.W.Frag) : Sp := fun vs H Q _ => ∃ (a c b : Addr) (m : Nat) (le : Nat → Nat → Prop) (p1 p2 : Nat × Nat), vs = [.ref a, .ref c, .ref b] ∧ Onw H a m le ∧ Onw H c m (flip2 le) ∧ Po m le ∧ 0 < m ∧ m ≤ 10000 ∧ ArcsAt H b [p1, p2] ∧ p1.1 < m ∧ p2.1 < m ∧ p1.2 < m ∧ p2.2 < m ∧
  ∀ (k : Bool) H', Ex H H' → (k = true ↔ Sg m le (Arc2 p1.1 p1.2 p2.1 p2.2)) → Q (.bl k) H'
theorem ok_hangs_by (T : Tx K mg) : Ok P w K mg base CX0 2 "hangs_by" ["onward", "back", "arcs"] (sp_hangs_by K) := by
  refine T.d_hangs_by.ok sc_hangs_by (fun vs H Q E h => ?_) (fun f cdv A outer s H vs Q E hG hr h => ?_)
  · obtain ⟨a, c, b, m, le, p1, p2, rfl, _⟩ := h
    rfl
  · obtain ⟨a, c, b, m, le, p1, p2, rfl, O, O2, P0, m0, hm, hB, k1, k2, l1, l2, q⟩ := h
    refine ⟨_, (pss_cons (ps_setLc (i := 3) (own := [("one", 4), ("other", 5)]) (g := gTup K 2 (gCons (gName 4) (gCons (gName 5) gNil))) (tt := tYes) rfl sc_hangs_by.nd rfl rfl (sw_true rfl rfl rfl (by decide +kernel)) (pi_listK (K := K) (pv 2)) (blkOk_by (own := [("one", 4), ("other", 5)]) (N := n_hangs_by) (sc := defScope s_hangs_by) (by decide +kernel)) (fun _ _ _ _ _ => (pg_tup rfl (pgs_cons (pg_name (i := 4) sc_hangs_by.nd rfl (Or.inl rfl)) (pgs_cons (pg_name (i := 5) sc_hangs_by.nd rfl (Or.inl rfl)) pgs_nil)))) (fun _ _ _ _ _ => pts_nil) (fun _ _ _ _ _ => (pe_tup (pa_cons (pv 5) (pa_cons (pv 4) pa_nil))))) (pss_one (ps_ret (pe_chain op_eq op_eq (pe_callO (ok_come_to T) hG (hr.mono (by decide)) (pa_cons (pv 0) (pa_cons (pv 2) pa_nil))) (pe_callB (call_lenK (K := K)) (by rfl) T.b_len PySem.boot_len (pa_cons (pv 0) pa_nil)) (pe_callO (ok_come_to T) hG (hr.mono (by decide)) (pa_cons (pv 1) (pa_cons (pv 3) pa_nil))))))), ?_⟩
    obtain ⟨acc, hA, hl, hat⟩ := onw_at (K := K) O
    obtain ⟨bcc, hB1, hB2⟩ := id hB
    have bl : bcc.length = 2 := hB2.len
    have s2 : 2 ≤ sizeLine := sz_of (by omega)
    refine ⟨_, rfl, b, rfl, ⟨_, SqL.of hB1⟩, fun D nD => ?_⟩
    refine lc_gen (src_list (K := K) (SqL.of hB1)) (by omega) nD (fun _ => true) (fun i v H => ArcAt H ([(p1.2, p1.1), (p2.2, p2.1)].getD i (0, 0)) v) (fun i v H H' h e => h.ex e) (fun i v H acc acc' hD h => ?_) (fun i x H2 Y Z hi e it hy _ => ?_) (fun H2 acc2 e hD ha => ?_)
    · obtain ⟨t, h1, h2⟩ := h
      refine ⟨t, h1, ?_⟩
      rw [upd_ne fun z => by rw [z, hD] at h2; cases h2]
      exact h2
    · obtain ⟨p, hp, t, rfl, ht⟩ := hB2.at it
      refine ⟨t, _, rfl, SqT.of (e _ _ ht), rfl, _, _, rfl, _, _, rfl, rfl, rfl, lc_yes ⟨_, rfl, _, rfl, s2, fun u nu => hy rfl _ _ (Ex.new nu) ⟨u, rfl, ?_⟩⟩⟩
      rw [upd_same]
      match i, hp with
      | 0, hp => cases hp; rfl
      | 1, hp => cases hp; rfl
      | i + 2, hp => cases hp
    · rw [filter_true, bl] at ha
      have hD3 : ArcsAt H2 D [(p1.2, p1.1), (p2.2, p2.1)] := ⟨acc2, hD, by
        have := Two.map (R := ArcAt H2) (f := fun i => [(p1.2, p1.1), (p2.2, p2.1)].getD i (0, 0)) ha
        exact this⟩
      refine ⟨_, rfl, _, rfl, a, b, m, le, p1, p2, rfl, O.ex e, P0, m0, hm, hB.ex e, l1, l2, fun n1 H3 e3 hn1 => ?_⟩
      refine ⟨_, rfl, a, acc, rfl, .inl (ex_l (e.trans e3) hA), rfl, _, rfl, ?_⟩
      have sg := sg_zero P0 (a := p1.1) (b := p1.2) (c := p2.1) (d := p2.2)
      by_cases h1 : n1 = m
      · rw [decide_eq_true (show V.int (n1 : Int) = V.int (acc.length : Int) by rw [h1, hl])]
        refine iteT ⟨_, rfl, _, rfl, c, D, m, flip2 le, (p1.2, p1.1), (p2.2, p2.1), rfl, O2.ex (e.trans e3), P0.flip, m0, hm, hD3.ex e3, k1, k2, fun n2 H4 e4 hn2 => ⟨rfl, ?_⟩⟩
        refine q _ _ ((e.trans e3).trans e4) ?_
        rw [decide_eq_true_iff, sg]
        constructor
        · intro h _
          have := V.int.inj h
          exact ⟨hn1.mp h1, hn2.mp (by omega)⟩
        · intro h
          rw [hn2.mpr (h m0).2, hl]
      · rw [decide_eq_false fun h => h1 (by have := V.int.inj h; omega)]
        refine iteF (q _ _ (e.trans e3) ?_)
        rw [sg]
        exact ⟨fun h => (Bool.false_ne_true h).elim, fun h => absurd (hn1.mpr (h m0).1) h1⟩
end

/-! ### arcs -/
section
variable {P : Program} {w : World} {K : PySem.W.Frag} {mg : Str → Option Value} {base : Heap}
theorem at_lastG {α : Type} {xs : List α} {x : α} : atI (xs ++ [x]) (-1) = some x := by
  unfold atI ixN
  have h0 : ¬ (0 : Int) ≤ -1 := by omega
  rw [if_neg h0, List.length_append]
  have l1 : [x].length = 1 := rfl
  rw [if_pos (by omega)]
  rw [show (-1 + ((xs.length + [x].length : Nat) : Int)).toNat = xs.length by omega]
  show (xs ++ [x])[xs.length]? = some x
  rw [List.getElem?_append_right (Nat.le_refl _), Nat.sub_self]
  rfl
theorem at_last2 {α : Type} {xs : List α} {x y : α} : atI (xs ++ [x] ++ [y]) (-2) = some x := by
  unfold atI ixN
  have h0 : ¬ (0 : Int) ≤ -2 := by omega
  rw [if_neg h0, List.length_append, List.length_append]
  have l1 : [x].length = 1 := rfl
  have l2 : [y].length = 1 := rfl
  rw [if_pos (by omega)]
  rw [show (-2 + ((xs.length + [x].length + [y].length : Nat) : Int)).toNat = xs.length by omega]
  show (xs ++ [x] ++ [y])[xs.length]? = some x
  rw [List.append_assoc, List.getElem?_append_right (Nat.le_refl _), Nat.sub_self]
  rfl
theorem at_lstc {z : Str} (h : 1 ≤ z.length) : atI (sg z) (-1) = some (lstc z) := by
  rw [beg_lst h]
  exact at_lastG
theorem at_lst2 {z : Str} (h : 2 ≤ z.length) : atI (sg z) (-2) = some (lstc (begS z)) := by
  have h1 : 1 ≤ (begS z).length := by rw [len_beg]; omega
  have e1 := beg_lst (q := z) (by omega)
  have e2 := beg_lst h1
  rw [show sg (begS z) = (sg z).dropLast from rfl] at e2
  rw [e1, e2]
  exact at_last2
theorem cut_beg2 (x : Str) : cutS x none (some (-2)) = begS (begS x) := sg_inj (by
  show ((sg x).drop (HT.sIx x.length 0 none)).take (HT.sIx x.length x.length (some (-2)) - HT.sIx x.length 0 none) = ((sg x).dropLast).dropLast
  have e1 : HT.sIx x.length 0 none = 0 := rfl
  have e2 : HT.sIx x.length x.length (some (-2)) = x.length - 2 := by
    show (if (-2 : Int) < 0 then ((-2 : Int) + (x.length : Int)).toNat else min (-2 : Int).toNat x.length) = _
    rw [if_pos (by decide)]
    omega
  have hl : (sg x).length = x.length := rfl
  rw [e1, e2, List.drop_zero, Nat.sub_zero, List.dropLast_eq_take, List.dropLast_eq_take, List.length_take, List.take_take, hl]
  congr 1
  omega)
theorem cut_end2 (x : Str) : cutS x (some 2) none = endS (endS x) := sg_inj (by
  show ((sg x).drop (HT.sIx x.length 0 (some 2))).take (HT.sIx x.length x.length none - HT.sIx x.length 0 (some 2)) = ((sg x).drop 1).drop 1
  have e1 : HT.sIx x.length 0 (some 2) = min 2 x.length := rfl
  have e2 : HT.sIx x.length x.length none = x.length := rfl
  have hl : (sg x).length = x.length := rfl
  rw [e1, e2, List.drop_drop]
  by_cases h : 2 ≤ x.length
  · rw [Nat.min_eq_left h, List.take_of_length_le (by rw [List.length_drop, hl]; exact Nat.le_refl _)]
  · rw [Nat.min_eq_right (by omega), List.drop_of_length_le (by omega), List.drop_of_length_le (by omega), List.take_nil])
/-- two loops over the places that put arcs to a dict -/
theorem pairs_go {G H : Hp} {L F : Addr} {ks : List Str} {lt : Str → Nat} {A : Str → Str → Prop} {td : TE} {body : TS} {D : Ends} {σ : L2.St} (I : Option V → Option V → L2.St → Prop)
    (hσ : ∃ x3 x4, I x3 x4 σ) (set3 : ∀ x3 x4 σ a, I x3 x4 σ → I (some (.str a)) x4 (σ.set 3 (some (.str a)))) (set4 : ∀ x3 x4 σ a, I x3 x4 σ → I x3 (some (.str a)) (σ.set 4 (some (.str a))))
    (hL : LotAt G L ks lt) (nF : G F = none) (e0 : Ex G H) (hF : H F = some (.dT [])) (hk : ks.length ≤ 200) (htd : ∀ x3 x4 σ' H' (R : VK), I x3 x4 σ' → R (.ref L) H' → td σ' H' R)
    (hb : ∀ (od : Obj) (a b : Str) (σ' : L2.St) (H' : Hp) (ps : List (Nat × Nat)) (D' : Ends), a ∈ ks → b ∈ ks → I (some (.str a)) (some (.str b)) σ' → H' L = some (.frz od (.dK (fkv (fun z => V.int (lt z : Int)) ks))) → Ex (upd G L (.frz od (.dK (fkv (fun z => V.int (lt z : Int)) ks)))) H' → H' F = some (.dT (truP ps)) → ps.length ≤ 50000 →
      (¬ A a b → ∀ σ2 H2, (∃ x4, I (some (.str a)) x4 σ2) → Ex H' H2 → D'.nx σ2 H2) → (A a b → ∀ σ2 H2, (∃ x4, I (some (.str a)) x4 σ2) → Ex H' H2 → D'.nx σ2 (upd H2 F (.dT (truP (addN ps (lt a, lt b)))))) → body D' σ' H')
    (hd : ∀ σ' H' ps, (∃ x3 x4, I x3 x4 σ') → Ex G H' → H' F = some (.dT (truP ps)) → ps.length ≤ 50000 → (∀ p, p ∈ ps ↔ ∃ a b, a ∈ ks ∧ b ∈ ks ∧ A a b ∧ p = (lt a, lt b)) → D.nx σ' H') :
    tLock (tFor (iKeys td) (gName 3) (tFor (iKeys td) (gName 4) body)) D σ H := by
  obtain ⟨x3, x4, hσ⟩ := hσ
  have LF : L ≠ F := ne_of_none hL nF
  have kk : ∀ {i : Nat}, i ≤ ks.length → i * ks.length ≤ 40000 := fun {i} hi => Nat.le_trans (Nat.mul_le_mul (show i ≤ 200 by omega) hk) (by omega)
  refine lk_fo (f := fun z => V.int (lt z : Int)) (ks := ks) (e0 _ _ hL) (fun od R h => htd _ _ _ _ _ hσ h)
    (fun od i σ H' => (∃ x3 x4, I x3 x4 σ) ∧ Ex (upd G L (.frz od (.dK (fkv (fun z => V.int (lt z : Int)) ks)))) H' ∧ ∃ ps, H' F = some (.dT (truP ps)) ∧ ps.length ≤ i * ks.length ∧ ∀ p, p ∈ ps ↔ ∃ a b, a ∈ ks.take i ∧ b ∈ ks ∧ A a b ∧ p = (lt a, lt b))
    (fun od => ⟨⟨_, _, hσ⟩, ex_lock e0, [], by rw [upd_ne LF.symm]; exact hF, Nat.zero_le _, fun p => ⟨fun h => (List.not_mem_nil h).elim, fun ⟨a, b, h, _⟩ => (List.not_mem_nil h).elim⟩⟩)
    (fun od i σ H' ⟨_, e, _⟩ => e _ _ upd_same) ?_ ?_
  · rintro od i z σ1 H1 hi ⟨⟨x3, x4, h1⟩, e1, ps, hF1, pl, mem⟩
    have hil := (List.getElem?_eq_some_iff.mp hi).1
    have zk : z ∈ ks := List.mem_of_getElem? hi
    have h2 := set3 _ _ _ z h1
    have nFb : (upd G L (.frz od (.dK (fkv (fun z => V.int (lt z : Int)) ks)))) F = none := by rw [upd_ne LF.symm]; exact nF
    refine htd _ _ _ _ _ h2 ⟨L, od, rfl, .inl ⟨_, e1 _ _ upd_same, ?_⟩⟩
    refine for_src (src_keys (Hb := upd G L (.frz od (.dK (fkv (fun z => V.int (lt z : Int)) ks)))) upd_same) (fun j σ H' => (∃ x4, I (some (.str z)) x4 σ) ∧ Ex (upd G L (.frz od (.dK (fkv (fun z => V.int (lt z : Int)) ks)))) H' ∧ ∃ ps, H' F = some (.dT (truP ps)) ∧ ps.length ≤ i * ks.length + j ∧ ∀ p, p ∈ ps ↔ ∃ a b, (a ∈ ks.take i ∧ b ∈ ks ∨ a = z ∧ b ∈ ks.take j) ∧ A a b ∧ p = (lt a, lt b))
      ⟨⟨_, h2⟩, e1, ps, hF1, pl, fun p => ?_⟩ (fun j σ H' ⟨_, e, _⟩ => e) ?_ ?_
    · rw [mem]
      refine ⟨fun ⟨a, b, q1, q2, q3⟩ => ⟨a, b, .inl ⟨q1, q2⟩, q3⟩, fun ⟨a, b, q1, q3⟩ => ?_⟩
      rcases q1 with ⟨q1, q2⟩ | ⟨_, q2⟩
      · exact ⟨a, b, q1, q2, q3⟩
      · exact (List.not_mem_nil q2).elim
    · rintro j x σ2 H2 H3 hj ⟨⟨x4, h3⟩, e2, ps2, hF2, pl2, mem2⟩ e3 ⟨y, hy, rfl⟩
      have yk : y ∈ ks := List.mem_of_getElem? hy
      have h4 := set4 _ _ _ y h3
      have e23 := e2.trans e3
      have hkk := kk (Nat.le_of_lt hil)
      have memS : ∀ {ps' : List (Nat × Nat)}, (∀ p, p ∈ ps' ↔ p ∈ ps2 ∨ (A z y ∧ p = (lt z, lt y))) → ∀ p, p ∈ ps' ↔ ∃ a b, (a ∈ ks.take i ∧ b ∈ ks ∨ a = z ∧ b ∈ ks.take (j + 1)) ∧ A a b ∧ p = (lt a, lt b) := fun {ps'} h p => by
        rw [h, mem2, take_snoc hy]
        constructor
        · rintro (⟨a, b, q1, q2⟩ | ⟨q1, q2⟩)
          · exact ⟨a, b, q1.imp id fun q => ⟨q.1, List.mem_append_left _ q.2⟩, q2⟩
          · exact ⟨z, y, .inr ⟨rfl, List.mem_append_right _ (List.mem_singleton.mpr rfl)⟩, q1, q2⟩
        · rintro ⟨a, b, q1, q2⟩
          rcases q1 with q1 | ⟨rfl, q1⟩
          · exact .inl ⟨a, b, .inl q1, q2⟩
          · rcases List.mem_append.mp q1 with q1 | q1
            · exact .inl ⟨a, b, .inr ⟨rfl, q1⟩, q2⟩
            · rw [List.mem_singleton.mp q1] at q2
              exact .inr q2
      have nFc : (upd G L (.frz od (.dK (fkv (fun z => V.int (lt z : Int)) ks)))) F = none := nFb
      have jl := (List.getElem?_eq_some_iff.mp hy).1
      refine hb od z y _ H3 ps2 _ zk yk h4 (e23 _ _ upd_same) e23 (e3 _ _ hF2) (by omega) (fun no σ4 H4 h5 e4 => ?_) (fun yes σ4 H4 h5 e4 => ?_)
      · exact ⟨h5, e23.trans e4, ps2, e4 _ _ (e3 _ _ hF2), by omega, memS fun p => ⟨.inl, fun h => h.elim id fun h => absurd h.1 no⟩⟩
      · refine ⟨h5, Ex.mut (e23.trans e4) nFb, _, upd_same, ?_, memS fun p => ?_⟩
        · have := addN_len ps2 (lt z, lt y)
          omega
        · rw [addN_mem]
          exact ⟨fun h => h.elim .inl fun h => .inr ⟨yes, h⟩, fun h => h.elim .inl fun h => .inr h.2⟩
    · rintro σ2 H2 ⟨⟨x4, h3⟩, e2, ps2, hF2, pl2, mem2⟩
      refine ⟨⟨_, _, h3⟩, e2, ps2, hF2, by rw [Nat.succ_mul]; exact pl2, fun p => ?_⟩
      rw [mem2, List.take_length, take_snoc hi]
      constructor
      · rintro ⟨a, b, q1, q2⟩
        rcases q1 with ⟨q1, q3⟩ | ⟨rfl, q3⟩
        · exact ⟨a, b, List.mem_append_left _ q1, q3, q2⟩
        · exact ⟨_, b, List.mem_append_right _ (List.mem_singleton.mpr rfl), q3, q2⟩
      · rintro ⟨a, b, q1, q3, q2⟩
        rcases List.mem_append.mp q1 with q1 | q1
        · exact ⟨a, b, .inl ⟨q1, q3⟩, q2⟩
        · exact ⟨a, b, .inr ⟨List.mem_singleton.mp q1, q3⟩, q2⟩
  · rintro od σ1 H1 ⟨h1, e1, ps, hF1, pl, mem⟩
    refine hd _ _ ps h1 (unlock_ex hL e1) (by rw [upd_ne LF.symm]; exact hF1) (Nat.le_trans pl (Nat.le_trans (kk (Nat.le_refl _)) (by omega))) fun p => ?_
    rw [mem, List.take_length]
def sp_arcs_of (K : PySem.W.Frag) : Sp := fun vs H Q _ => ∃ (v : V) (L : Addr) (n : Nat) (ws ks : List Str) (lt : Str → Nat), vs = [v, .ref L] ∧ Dp K H v (bookD n ws) ∧ Bk n ws ∧ LotAt H L ks lt ∧ ks.length ≤ 200 ∧ (∀ p, p ∈ ks ↔ p ∈ plcs ws) ∧
  ∀ F H' ps, Ex H H' → H' F = some (.dT (truP ps)) → ps.length ≤ 50000 → (∀ i j, (i, j) ∈ ps ↔ ArcP ws lt i j) → Q (.ref F) H'
theorem ok_arcs_of (T : Tx K mg) : Ok P w K mg base CX0 1 "arcs_of" ["book", "lot_of"] (sp_arcs_of K) := by
  refine T.d_arcs_of.ok sc_arcs_of (fun vs H Q E h => ?_) (fun f cdv A outer s H vs Q E hG hr h => ?_)
  · obtain ⟨v, L, n, ws, ks, lt, rfl, _⟩ := h
    rfl
  · obtain ⟨v, L, n, ws, ks, lt, rfl, hB, B, hL, lk, mem, q⟩ := h
    refine ⟨_, (pss_cons (ps_set (i := 2) sc_arcs_of.nd rfl (Or.inl rfl) pe_dnewT) (pss_cons (ps_lock (ps_for PassesOwn.never rfl (pi_keys (pv 1)) (pg_name (i := 3) sc_arcs_of.nd rfl (Or.inl rfl)) (pss_one (ps_for PassesOwn.never rfl (pi_keys (pv 1)) (pg_name (i := 4) sc_arcs_of.nd rfl (Or.inl rfl)) (pss_one (ps_if (PW.pt (pw_and (pt_cmpR op_ne (pe_dget (hu_of hr) (pv 1) (pv 3) (fun _ _ => rfl)) (pe_dget (hu_of hr) (pv 1) (pv 4) (fun _ _ => rfl)) (nomark _)) (pw_and (pt_cmpR op_eq (pe_slice sl_str (pv 3) (po_some pe_int) po_none) (pe_slice sl_str (pv 4) po_none (po_some (pe_un un_neg pe_int))) (nomark _)) (pw_and1 (pt_cmpR (op_notInK (K := K)) (pe_op op_add_str (pv 3) (pe_ix ix_str (pv 4) (pe_un un_neg pe_int) (fun _ _ => rfl))) (pe_ix (ix_tupK (K := K)) (pv 0) pe_int (fun _ _ => rfl)) (by rfl)))))) (pss_one (ps_dput (hu_of hr) (pv 2) (pe_tup (pa_cons (pe_dget (hu_of hr) (pv 1) (pv 3) (fun _ _ => rfl)) (pa_cons (pe_dget (hu_of hr) (pv 1) (pv 4) (fun _ _ => rfl)) pa_nil))) pe_bl rfl)) pss_nil)))))) (pss_one (ps_ret (pv 2))))), ?_⟩
    obtain ⟨bk, tw, rfl, hb, ht⟩ := dp_book hB
    have s2 : 2 ≤ sizeLine := sz_of (by omega)
    have plen : ∀ {p : Str}, p ∈ ks → 1 ≤ p.length ∧ p.length ≤ 10 := fun {p} hp => by
      obtain ⟨x, hx, e⟩ := plcs_mem.mp ((mem p).mp hp)
      have h1 := (B.win.1 x hx).2
      have h2 := B.lo
      have h3 := B.hi
      rcases e with rfl | rfl
      · rw [len_beg]; omega
      · rw [len_end]; omega
    intro F nF
    have LF : L ≠ F := ne_of_none hL nF
    refine pairs_go (G := H) (L := L) (F := F) (ks := ks) (lt := lt) (A := fun a b => lt a ≠ lt b ∧ endS a = begS b ∧ (a ++ one1 (lstc b)) ∉ ws) (fun x3 x4 σ => σ = [some (.ref bk), some (.ref L), some (.ref F), x3, x4])
      ⟨_, _, rfl⟩ (fun x3 x4 σ a h => by rw [h]; rfl) (fun x3 x4 σ a h => by rw [h]; rfl) hL nF (Ex.new nF) upd_same lk (fun x3 x4 σ H' R h r => by rw [h]; exact ⟨_, rfl, r⟩) (fun od a b σ' H' ps D' ha hb' hσ hL' e hF pl no yes => ?_) (fun σ' H' ps hσ e hF pl hm => ?_)
    · subst hσ
      obtain ⟨a1, a2⟩ := plen ha
      obtain ⟨b1, b2⟩ := plen hb'
      have gt : ∀ {H2 : Hp}, Ex H' H2 → ∀ {y : Str}, y ∈ ks → DGet H2 L (.str y) (some (.int (lt y))) := fun {H2} e2 {y} hy => by
        have := rd_get (k := kS y) (show Rd H2 L _ from .inr ⟨od, e2 _ _ hL'⟩)
        rw [fkv_val hy] at this
        exact this
      have xr := Ex.refl H'
      have frz_t : ∀ {x : Addr} {xs : List V}, SqT K H x xs → SqT K H' x xs := fun {x xs} h => ex_t e (by
        have ne : ∀ {w : HO}, H x = some w → (∀ kvs, w ≠ .dK kvs) → (upd H L (.frz od (.dK (fkv (fun z => V.int (lt z : Int)) ks)))) x = some w := fun {w} hw n => by
          rw [upd_ne fun z => n _ (by rw [z, hL] at hw; exact (Option.some.inj hw).symm)]
          exact hw
        exact sqT_put hL h)
      refine ⟨_, rfl, _, rfl, L, _, rfl, gt xr ha, _, rfl, _, rfl, L, _, rfl, gt xr hb', rfl, _, rfl, ?_⟩
      by_cases hne : lt a = lt b
      · rw [decide_eq_true (show V.int (lt a : Int) = V.int (lt b : Int) by rw [hne])]
        exact iteF (no (fun h => h.1 hne) _ _ ⟨_, rfl⟩ xr)
      rw [decide_eq_false (fun h => hne (by have := V.int.inj h; omega))]
      refine iteT ⟨_, rfl, 1, rfl, a, rfl, sz_of (by omega), ?_⟩
      rw [cut_end]
      refine ⟨_, rfl, 1, rfl, _, rfl, b, rfl, sz_of (by omega), ?_⟩
      rw [show cutS b none (some (-1)) = begS b from cut_beg b]
      refine ⟨rfl, _, rfl, ?_⟩
      by_cases heq : endS a = begS b
      · rw [decide_eq_true (show V.str (endS a) = V.str (begS b) by rw [heq])]
        refine iteT ⟨_, rfl, _, rfl, 1, rfl, b, _, lstc b, rfl, rfl, sz_of (by omega), at_lstc b1, a, _, rfl, rfl, ?_, ?_⟩
        · show a.length + (one1 (lstc b)).length ≤ _
          rw [show (one1 (lstc b)).length = 1 from rfl]
          exact sz_of (by omega)
        refine ⟨_, rfl, _, _, _, _, rfl, rfl, frz_t hb, atI_of (j := 1) rfl rfl, tw, _, rfl, .inr (frz_t ht), rfl, flat_strs _, _, rfl, ?_⟩
        have e9 : inV (V.str (a ++ ⟨#[lstc b]⟩)) (ws.map V.str) = decide (a ++ one1 (lstc b) ∈ ws) := inV_strs _ _
        rw [e9]
        by_cases hin : a ++ one1 (lstc b) ∈ ws
        · rw [decide_eq_true hin]
          exact iteF (no (fun h => h.2.2 hin) _ _ ⟨_, rfl⟩ xr)
        · rw [decide_eq_false hin]
          refine iteT ⟨_, rfl, _, rfl, _, rfl, L, _, rfl, gt xr ha, _, rfl, _, rfl, L, _, rfl, gt xr hb', s2, fun p np => ?_⟩
          have xp := Ex.new (o := .tup [.int (lt a), .int (lt b)]) np
          refine ⟨F, _, rfl, DPut.t (k := kP (lt a, lt b)) (xp _ _ hF) upd_same (sz_lt (by rw [truG_len]; omega)), ?_⟩
          rw [truG_add kP_inj]
          exact yes ⟨hne, heq, hin⟩ _ _ ⟨_, rfl⟩ xp
      · rw [decide_eq_false fun h => heq (V.str.inj h)]
        exact iteF (no (fun h => heq h.2.1) _ _ ⟨_, rfl⟩ xr)
    · obtain ⟨x3, x4, rfl⟩ := hσ
      refine ⟨_, rfl, q F H' ps e hF pl fun i j => ?_⟩
      rw [hm]
      constructor
      · rintro ⟨a, b, ha, hb', ⟨h1, h2, h3⟩, h4⟩
        cases h4
        exact ⟨h1, a, b, (mem a).mp ha, (mem b).mp hb', rfl, rfl, h2, h3⟩
      · rintro ⟨h1, a, b, ha, hb', rfl, rfl, h2, h3⟩
        exact ⟨a, b, (mem a).mpr ha, (mem b).mpr hb', ⟨h1, h2, h3⟩, rfl⟩
def sp_long_arcs_of (K : PySem.W.Frag) : Sp := fun vs H Q _ => ∃ (v : V) (L : Addr) (n : Nat) (ws ks : List Str) (lt : Str → Nat), vs = [v, .ref L] ∧ Dp K H v (bookD n ws) ∧ Bk n ws ∧ LotAt H L ks lt ∧ ks.length ≤ 200 ∧ (∀ p, p ∈ ks ↔ p ∈ plcs ws) ∧
  ∀ F H' ps, Ex H H' → H' F = some (.dT (truP ps)) → ps.length ≤ 50000 → (∀ i j, (i, j) ∈ ps ↔ 3 ≤ n ∧ LongP ws lt i j) → Q (.ref F) H'
theorem ok_long_arcs_of (T : Tx K mg) : Ok P w K mg base CX0 1 "long_arcs_of" ["book", "lot_of"] (sp_long_arcs_of K) := by
  refine T.d_long_arcs_of.ok sc_long_arcs_of (fun vs H Q E h => ?_) (fun f cdv A outer s H vs Q E hG hr h => ?_)
  · obtain ⟨v, L, n, ws, ks, lt, rfl, _⟩ := h
    rfl
  · obtain ⟨v, L, n, ws, ks, lt, rfl, hB, B, hL, lk, mem, q⟩ := h
    refine ⟨_, (pss_cons (ps_set (i := 2) sc_long_arcs_of.nd rfl (Or.inl rfl) pe_dnewT) (pss_cons (ps_if (pt_cmpR op_eq (pe_ix (ix_tupK (K := K)) (pv 0) pe_int (fun _ _ => rfl)) pe_int (nomark _)) (pss_one (ps_ret (pv 2))) pss_nil) (pss_cons (ps_lock (ps_for PassesOwn.never rfl (pi_keys (pv 1)) (pg_name (i := 3) sc_long_arcs_of.nd rfl (Or.inl rfl)) (pss_one (ps_for PassesOwn.never rfl (pi_keys (pv 1)) (pg_name (i := 4) sc_long_arcs_of.nd rfl (Or.inl rfl)) (pss_cons (ps_set (i := 5) sc_long_arcs_of.nd rfl (Or.inl rfl) (pe_and (pe_cmpR op_eq (pe_slice sl_str (pv 3) (po_some pe_int) po_none) (pe_slice sl_str (pv 4) po_none (po_some (pe_un un_neg pe_int))) (nomark _)) (pe_one (pe_cmp (pc_dnotin (hu_of hr) (pe_op op_add_str (pe_slice sl_str (pv 3) (po_some pe_int) po_none) (pe_ix ix_str (pv 4) (pe_un un_neg pe_int) (fun _ _ => rfl))) (pv 1)))))) (pss_one (ps_if (PW.pt (pw_and (pt_val (pv 5)) (pw_and1 (pt_cmpR op_ne (pe_dget (hu_of hr) (pv 1) (pv 3) (fun _ _ => rfl)) (pe_dget (hu_of hr) (pv 1) (pv 4) (fun _ _ => rfl)) (nomark _))))) (pss_one (ps_dput (hu_of hr) (pv 2) (pe_tup (pa_cons (pe_dget (hu_of hr) (pv 1) (pv 3) (fun _ _ => rfl)) (pa_cons (pe_dget (hu_of hr) (pv 1) (pv 4) (fun _ _ => rfl)) pa_nil))) pe_bl rfl)) pss_nil))))))) (pss_one (ps_ret (pv 2)))))), ?_⟩
    obtain ⟨bk, tw, rfl, hb, ht⟩ := dp_book hB
    have s2 : 2 ≤ sizeLine := sz_of (by omega)
    have plen : ∀ {p : Str}, p ∈ ks → p.length + 1 = n ∧ p.length ≤ 10 := fun {p} hp => by
      obtain ⟨x, hx, e⟩ := plcs_mem.mp ((mem p).mp hp)
      have h1 := (B.win.1 x hx).2
      have h2 := B.lo
      have h3 := B.hi
      rcases e with rfl | rfl
      · rw [len_beg]; omega
      · rw [len_end]; omega
    intro F nF
    have LF : L ≠ F := ne_of_none hL nF
    have xF := Ex.new (o := .dT []) nF
    refine ⟨_, rfl, bk, _, _, _, rfl, rfl, ex_t xF hb, atI_of (j := 0) rfl rfl, rfl, _, rfl, ?_⟩
    by_cases n2 : n = 2
    · rw [decide_eq_true (show V.int (n : Int) = V.int 2 by rw [n2]; rfl)]
      refine iteT ⟨_, rfl, q F _ [] xF upd_same (by show 0 ≤ _; omega) fun i j => ⟨fun h => (List.not_mem_nil h).elim, fun h => absurd h.1 (by omega)⟩⟩
    have n3 : 3 ≤ n := by have := B.lo; omega
    rw [decide_eq_false fun h => n2 (by have := V.int.inj h; omega)]
    refine iteF (pairs_go (G := H) (L := L) (F := F) (ks := ks) (lt := lt) (A := fun a b => lt a ≠ lt b ∧ endS (endS a) = begS (begS b) ∧ (endS a ++ one1 (lstc (begS b))) ∉ ks) (fun x3 x4 σ => ∃ x5, σ = [some (.ref bk), some (.ref L), some (.ref F), x3, x4, x5])
      ⟨_, _, _, rfl⟩ (fun x3 x4 σ a ⟨x5, h⟩ => ⟨x5, by rw [h]; rfl⟩) (fun x3 x4 σ a ⟨x5, h⟩ => ⟨x5, by rw [h]; rfl⟩) hL nF xF upd_same lk (fun x3 x4 σ H' R ⟨_, h⟩ r => by rw [h]; exact ⟨_, rfl, r⟩) (fun od a b σ' H' ps D' ha hb' hσ hL' e hF pl no yes => ?_) (fun σ' H' ps hσ e hF pl hm => ?_))
    · obtain ⟨x5, rfl⟩ := hσ
      obtain ⟨a1, a2⟩ := plen ha
      obtain ⟨b1, b2⟩ := plen hb'
      have gt : ∀ {H2 : Hp}, Ex H' H2 → ∀ {y : Str}, y ∈ ks → DGet H2 L (.str y) (some (.int (lt y))) := fun {H2} e2 {y} hy => by
        have := rd_get (k := kS y) (show Rd H2 L _ from .inr ⟨od, e2 _ _ hL'⟩)
        rw [fkv_val hy] at this
        exact this
      have xr := Ex.refl H'
      refine ⟨_, rfl, 2, rfl, a, rfl, sz_of (by omega), ?_⟩
      rw [cut_end2]
      refine ⟨_, rfl, 2, rfl, _, rfl, b, rfl, sz_of (by omega), ?_⟩
      rw [show cutS b none (some (-2)) = begS (begS b) from cut_beg2 b]
      refine ⟨rfl, _, rfl, ?_⟩
      by_cases heq : endS (endS a) = begS (begS b)
      · rw [decide_eq_true (show V.str (endS (endS a)) = V.str (begS (begS b)) by rw [heq])]
        refine iteT ⟨_, rfl, 1, rfl, a, rfl, sz_of (by omega), ?_⟩
        rw [cut_end]
        refine ⟨_, rfl, 2, rfl, b, _, lstc (begS b), rfl, rfl, sz_of (by omega), at_lst2 (by omega), endS a, _, rfl, rfl, ?_, ?_⟩
        · show (endS a).length + (one1 (lstc (begS b))).length ≤ _
          rw [show (one1 (lstc (begS b))).length = 1 from rfl, len_end]
          exact sz_of (by omega)
        refine ⟨_, rfl, L, _, rfl, rd_get (k := kS (endS a ++ one1 (lstc (begS b)))) (.inr ⟨od, hL'⟩), ?_⟩
        rw [fkv_in]
        by_cases hin : endS a ++ one1 (lstc (begS b)) ∈ ks
        · rw [decide_eq_true hin]
          exact ⟨_, rfl, _, rfl, iteF (no (fun h => h.2.2 hin) _ _ ⟨_, _, rfl⟩ xr)⟩
        · rw [decide_eq_false hin]
          refine ⟨_, rfl, _, rfl, iteT ⟨_, rfl, _, rfl, L, _, rfl, gt xr ha, _, rfl, _, rfl, L, _, rfl, gt xr hb', rfl, _, rfl, ?_⟩⟩
          by_cases hne : lt a = lt b
          · rw [decide_eq_true (show V.int (lt a : Int) = V.int (lt b : Int) by rw [hne])]
            exact iteF (no (fun h => h.1 hne) _ _ ⟨_, _, rfl⟩ xr)
          rw [decide_eq_false (fun h => hne (by have := V.int.inj h; omega))]
          refine iteT ⟨_, rfl, _, rfl, _, rfl, L, _, rfl, gt xr ha, _, rfl, _, rfl, L, _, rfl, gt xr hb', s2, fun p np => ?_⟩
          have xp := Ex.new (o := .tup [.int (lt a), .int (lt b)]) np
          refine ⟨F, _, rfl, DPut.t (k := kP (lt a, lt b)) (xp _ _ hF) upd_same (sz_lt (by rw [truG_len]; omega)), ?_⟩
          rw [truG_add kP_inj]
          exact yes ⟨hne, heq, hin⟩ _ _ ⟨_, _, rfl⟩ xp
      · rw [decide_eq_false fun h => heq (V.str.inj h)]
        exact iteF ⟨_, rfl, _, rfl, iteF (no (fun h => heq h.2.1) _ _ ⟨_, _, rfl⟩ xr)⟩
    · obtain ⟨x3, x4, x5, rfl⟩ := hσ
      refine ⟨_, rfl, q F H' ps e hF pl fun i j => ?_⟩
      rw [hm]
      constructor
      · rintro ⟨a, b, ha, hb', ⟨h1, h2, h3⟩, h4⟩
        cases h4
        exact ⟨n3, h1, a, b, (mem a).mp ha, (mem b).mp hb', rfl, rfl, h2, fun h => h3 ((mem _).mpr h)⟩
      · rintro ⟨_, h1, a, b, ha, hb', rfl, rfl, h2, h3⟩
        exact ⟨a, b, (mem a).mpr ha, (mem b).mpr hb', ⟨h1, h2, fun h => h3 ((mem _).mp h)⟩, rfl⟩
end

/-! ### the fewest windows that join -/
section
variable {P : Program} {w : World} {K : PySem.W.Frag} {mg : Str → Option Value} {base : Heap}
def IntsAt (H : Hp) (a : Addr) (l : List Nat) : Prop := H a = some (.lst ((l.map fun i : Nat => (i : Int)).map V.int))
theorem ints_at {l : List Nat} {i : Nat} (h : i < l.length) : atI ((l.map fun i : Nat => (i : Int)).map V.int) (i : Int) = some (.int (l.getD i 0 : Nat)) := by
  refine atI_of rfl ?_
  rw [List.map_map, List.getElem?_map, List.getElem?_eq_getElem h, List.getD_eq_getElem?_getD, List.getElem?_eq_getElem h]
  rfl
def sp_first_and_second (K : PySem.W.Frag) : Sp := fun vs H Q _ => ∃ (F ea sa : Addr) (ps : List (Nat × Nat)) (E0 S0 : List Nat), vs = [.ref F, .ref ea, .ref sa] ∧ H F = some (.dT (truP ps)) ∧ ps.length ≤ 50000 ∧ IntsAt H ea E0 ∧ IntsAt H sa S0 ∧ 1 ≤ E0.length ∧ 1 ≤ S0.length ∧ E0.length ≤ 2 ∧ S0.length ≤ 2 ∧
  ∀ T A B H', Ex H H' → H' T = some (.tup [.ref A, .ref B]) → ∀ f g : Nat × Nat → Bool, (∀ p, f p = true ↔ Sel1 E0 S0 p) → (∀ p, g p = true ↔ Sel2 E0 S0 p) → ArcsAt H' A (ps.filter f) → ArcsAt H' B (ps.filter g) → Q (.ref T) H'
theorem ok_first_and_second (T : Tx K mg) : Ok P w K mg base CX0 1 "first_and_second" ["arcs", "ends", "starts"] (sp_first_and_second K) := by
  refine T.d_first_and_second.ok sc_first_and_second (fun vs H Q E h => ?_) (fun f cdv A outer s H vs Q E hG hr h => ?_)
  · obtain ⟨F, ea, sa, ps, E0, S0, rfl, _⟩ := h
    rfl
  · obtain ⟨F, ea, sa, ps, E0, S0, rfl, hF, hn, hE, hS, e1, s1, e2, s2', q⟩ := h
    refine ⟨_, (pss_cons (ps_if (pt_cmpR op_eq (pe_callB (call_lenK (K := K)) (by rfl) T.b_len PySem.boot_len (pa_cons (pv 1) pa_nil)) pe_int (nomark _)) (pss_one (ps_ret (pe_tup (pa_cons (pe_lock (pe_lc (own := [("arc", 3)]) (g := gName 3) rfl sc_first_and_second.nd (pi_keys (pv 0)) (blkOk_by (own := [("arc", 3)]) (N := n_first_and_second) (sc := defScope s_first_and_second) (by decide +kernel)) (fun _ _ _ _ _ => pg_name (i := 3) sc_first_and_second.nd rfl (Or.inl rfl)) (fun _ _ _ _ _ => pts_one (pt_cmpR op_eq (pe_ix (ix_tupK (K := K)) (pv 3) pe_int (fun _ _ => rfl)) (pe_ix (ix_listK (K := K)) (pv 1) pe_int (fun _ _ => rfl)) (nomark _))) (fun _ _ _ _ _ => (pv 3)))) (pa_cons (pe_lock (pe_lc (own := [("arc", 3)]) (g := gName 3) rfl sc_first_and_second.nd (pi_keys (pv 0)) (blkOk_by (own := [("arc", 3)]) (N := n_first_and_second) (sc := defScope s_first_and_second) (by decide +kernel)) (fun _ _ _ _ _ => pg_name (i := 3) sc_first_and_second.nd rfl (Or.inl rfl)) (fun _ _ _ _ _ => pts_one (pt_cmpR op_eq (pe_ix (ix_tupK (K := K)) (pv 3) pe_int (fun _ _ => rfl)) (pe_ix (ix_listK (K := K)) (pv 1) pe_int (fun _ _ => rfl)) (nomark _))) (fun _ _ _ _ _ => (pv 3)))) pa_nil))))) pss_nil) (pss_cons (ps_if (pt_cmpR op_eq (pe_callB (call_lenK (K := K)) (by rfl) T.b_len PySem.boot_len (pa_cons (pv 2) pa_nil)) pe_int (nomark _)) (pss_one (ps_ret (pe_tup (pa_cons (pe_lock (pe_lc (own := [("arc", 3)]) (g := gName 3) rfl sc_first_and_second.nd (pi_keys (pv 0)) (blkOk_by (own := [("arc", 3)]) (N := n_first_and_second) (sc := defScope s_first_and_second) (by decide +kernel)) (fun _ _ _ _ _ => pg_name (i := 3) sc_first_and_second.nd rfl (Or.inl rfl)) (fun _ _ _ _ _ => pts_one (pt_cmpR op_eq (pe_ix (ix_tupK (K := K)) (pv 3) pe_int (fun _ _ => rfl)) (pe_ix (ix_listK (K := K)) (pv 2) pe_int (fun _ _ => rfl)) (nomark _))) (fun _ _ _ _ _ => (pv 3)))) (pa_cons (pe_lock (pe_lc (own := [("arc", 3)]) (g := gName 3) rfl sc_first_and_second.nd (pi_keys (pv 0)) (blkOk_by (own := [("arc", 3)]) (N := n_first_and_second) (sc := defScope s_first_and_second) (by decide +kernel)) (fun _ _ _ _ _ => pg_name (i := 3) sc_first_and_second.nd rfl (Or.inl rfl)) (fun _ _ _ _ _ => pts_one (pt_cmpR op_eq (pe_ix (ix_tupK (K := K)) (pv 3) pe_int (fun _ _ => rfl)) (pe_ix (ix_listK (K := K)) (pv 2) pe_int (fun _ _ => rfl)) (nomark _))) (fun _ _ _ _ _ => (pv 3)))) pa_nil))))) pss_nil) (pss_one (ps_ret (pe_tup (pa_cons (pe_lock (pe_lc (own := [("arc", 3)]) (g := gName 3) rfl sc_first_and_second.nd (pi_keys (pv 0)) (blkOk_by (own := [("arc", 3)]) (N := n_first_and_second) (sc := defScope s_first_and_second) (by decide +kernel)) (fun _ _ _ _ _ => pg_name (i := 3) sc_first_and_second.nd rfl (Or.inl rfl)) (fun _ _ _ _ _ => pts_one (pt_cmpR op_eq (pe_ix (ix_tupK (K := K)) (pv 3) pe_int (fun _ _ => rfl)) (pe_ix (ix_listK (K := K)) (pv 1) pe_int (fun _ _ => rfl)) (nomark _))) (fun _ _ _ _ _ => (pv 3)))) (pa_cons (pe_lock (pe_lc (own := [("arc", 3)]) (g := gName 3) rfl sc_first_and_second.nd (pi_keys (pv 0)) (blkOk_by (own := [("arc", 3)]) (N := n_first_and_second) (sc := defScope s_first_and_second) (by decide +kernel)) (fun _ _ _ _ _ => pg_name (i := 3) sc_first_and_second.nd rfl (Or.inl rfl)) (fun _ _ _ _ _ => pts_one (pt_cmpR op_eq (pe_ix (ix_tupK (K := K)) (pv 3) pe_int (fun _ _ => rfl)) (pe_ix (ix_listK (K := K)) (pv 2) pe_int (fun _ _ => rfl)) (nomark _))) (fun _ _ _ _ _ => (pv 3)))) pa_nil))))))), ?_⟩
    have s2 : 2 ≤ sizeLine := sz_of (by omega)
    have le1 : ((E0.map fun i : Nat => (i : Int)).map V.int).length = E0.length := by rw [List.length_map, List.length_map]
    have le2 : ((S0.map fun i : Nat => (i : Int)).map V.int).length = S0.length := by rw [List.length_map, List.length_map]
    have hEl : H ea = some (.lst ((E0.map fun i : Nat => (i : Int)).map V.int)) := hE
    have hSl : H sa = some (.lst ((S0.map fun i : Nat => (i : Int)).map V.int)) := hS
    refine ⟨_, rfl, ea, _, rfl, .inl (SqL.of hE), rfl, _, rfl, ?_⟩
    by_cases h1 : E0.length = 2
    · rw [decide_eq_true (show V.int (((E0.map fun i : Nat => (i : Int)).map V.int).length : Int) = V.int 2 by rw [le1, h1]; rfl)]
      refine iteT ?_
      dsimp only [tRet, tTup, tCons]
      refine lkT_lc hF (by omega) (fun od R r => ⟨_, rfl, r⟩) (fun p => decide (p.1 = E0.getD 0 0)) (fun od p x H2 Y Z hp e2 hx hy hno => ?_) (fun A HA eA nA hA => ?_)
      · obtain ⟨t, rfl, ht⟩ := hx
        have hl2 : H2 ea = some (.lst ((E0.map fun i : Nat => (i : Int)).map V.int)) := e2 _ _ (by rw [upd_ne (ne_of hEl hF fun z => nomatch z)]; exact hEl)
        refine ⟨rfl, _, rfl, t, _, 0, _, rfl, rfl, SqT.of ht, atI_of (j := 0) rfl rfl, _, rfl, ea, _, (0 : Nat), _, rfl, rfl, SqL.of hl2, ints_at (by omega), rfl, _, rfl, ?_⟩
        by_cases hq : p.1 = E0.getD 0 0
        · rw [decide_eq_true (show V.int (p.1 : Int) = V.int (E0.getD 0 0 : Nat) by rw [hq])]
          exact iteT ⟨_, rfl, hy (decide_eq_true hq) _ (Ex.refl _)⟩
        · rw [decide_eq_false fun h => hq (by have := V.int.inj h; omega)]
          exact iteF (hno (decide_eq_false hq) _ (Ex.refl _))
      refine lkT_lc (eA _ _ hF) (by omega) (fun od R r => ⟨_, rfl, r⟩) (fun p => decide (p.1 = E0.getD 1 0)) (fun od p x H2 Y Z hp e2 hx hy hno => ?_) (fun B HB eB nB hB => ?_)
      · obtain ⟨t, rfl, ht⟩ := hx
        have hl2 : H2 ea = some (.lst ((E0.map fun i : Nat => (i : Int)).map V.int)) := e2 _ _ (by rw [upd_ne (ne_of hEl hF fun z => nomatch z)]; exact eA _ _ hEl)
        refine ⟨rfl, _, rfl, t, _, 0, _, rfl, rfl, SqT.of ht, atI_of (j := 0) rfl rfl, _, rfl, ea, _, (1 : Nat), _, rfl, rfl, SqL.of hl2, ints_at (by omega), rfl, _, rfl, ?_⟩
        by_cases hq : p.1 = E0.getD 1 0
        · rw [decide_eq_true (show V.int (p.1 : Int) = V.int (E0.getD 1 0 : Nat) by rw [hq])]
          exact iteT ⟨_, rfl, hy (decide_eq_true hq) _ (Ex.refl _)⟩
        · rw [decide_eq_false fun h => hq (by have := V.int.inj h; omega)]
          exact iteF (hno (decide_eq_false hq) _ (Ex.refl _))
      refine ⟨s2, fun T nT => ?_⟩
      have xT := Ex.new (o := .tup [.ref A, .ref B]) nT
      refine q T A B _ ((eA.trans eB).trans xT) upd_same _ _ (fun p => ?_) (fun p => ?_) ((hA.ex eB).ex xT) (hB.ex xT)
      · rw [decide_eq_true_iff]; unfold Sel1; rw [if_pos h1]
      · rw [decide_eq_true_iff]; unfold Sel2; rw [if_pos h1]
    · rw [decide_eq_false fun h => h1 (by have := V.int.inj h; omega)]
      refine iteF ⟨_, rfl, sa, _, rfl, .inl (SqL.of hS), rfl, _, rfl, ?_⟩
      by_cases h2 : S0.length = 2
      · rw [decide_eq_true (show V.int (((S0.map fun i : Nat => (i : Int)).map V.int).length : Int) = V.int 2 by rw [le2, h2]; rfl)]
        refine iteT ?_
        dsimp only [tRet, tTup, tCons]
        refine lkT_lc hF (by omega) (fun od R r => ⟨_, rfl, r⟩) (fun p => decide (p.2 = S0.getD 0 0)) (fun od p x H2 Y Z hp e2 hx hy hno => ?_) (fun A HA eA nA hA => ?_)
        · obtain ⟨t, rfl, ht⟩ := hx
          have hl2 : H2 sa = some (.lst ((S0.map fun i : Nat => (i : Int)).map V.int)) := e2 _ _ (by rw [upd_ne (ne_of hSl hF fun z => nomatch z)]; exact hSl)
          refine ⟨rfl, _, rfl, t, _, 1, _, rfl, rfl, SqT.of ht, atI_of (j := 1) rfl rfl, _, rfl, sa, _, (0 : Nat), _, rfl, rfl, SqL.of hl2, ints_at (by omega), rfl, _, rfl, ?_⟩
          by_cases hq : p.2 = S0.getD 0 0
          · rw [decide_eq_true (show V.int (p.2 : Int) = V.int (S0.getD 0 0 : Nat) by rw [hq])]
            exact iteT ⟨_, rfl, hy (decide_eq_true hq) _ (Ex.refl _)⟩
          · rw [decide_eq_false fun h => hq (by have := V.int.inj h; omega)]
            exact iteF (hno (decide_eq_false hq) _ (Ex.refl _))
        refine lkT_lc (eA _ _ hF) (by omega) (fun od R r => ⟨_, rfl, r⟩) (fun p => decide (p.2 = S0.getD 1 0)) (fun od p x H2 Y Z hp e2 hx hy hno => ?_) (fun B HB eB nB hB => ?_)
        · obtain ⟨t, rfl, ht⟩ := hx
          have hl2 : H2 sa = some (.lst ((S0.map fun i : Nat => (i : Int)).map V.int)) := e2 _ _ (by rw [upd_ne (ne_of hSl hF fun z => nomatch z)]; exact eA _ _ hSl)
          refine ⟨rfl, _, rfl, t, _, 1, _, rfl, rfl, SqT.of ht, atI_of (j := 1) rfl rfl, _, rfl, sa, _, (1 : Nat), _, rfl, rfl, SqL.of hl2, ints_at (by omega), rfl, _, rfl, ?_⟩
          by_cases hq : p.2 = S0.getD 1 0
          · rw [decide_eq_true (show V.int (p.2 : Int) = V.int (S0.getD 1 0 : Nat) by rw [hq])]
            exact iteT ⟨_, rfl, hy (decide_eq_true hq) _ (Ex.refl _)⟩
          · rw [decide_eq_false fun h => hq (by have := V.int.inj h; omega)]
            exact iteF (hno (decide_eq_false hq) _ (Ex.refl _))
        refine ⟨s2, fun T nT => ?_⟩
        have xT := Ex.new (o := .tup [.ref A, .ref B]) nT
        refine q T A B _ ((eA.trans eB).trans xT) upd_same _ _ (fun p => ?_) (fun p => ?_) ((hA.ex eB).ex xT) (hB.ex xT)
        · rw [decide_eq_true_iff]; unfold Sel1; rw [if_neg h1, if_pos h2]
        · rw [decide_eq_true_iff]; unfold Sel2; rw [if_neg h1, if_pos h2]
      · rw [decide_eq_false fun h => h2 (by have := V.int.inj h; omega)]
        refine iteF ?_
        dsimp only [tNext, tRet, tTup, tCons]
        refine lkT_lc hF (by omega) (fun od R r => ⟨_, rfl, r⟩) (fun p => decide (p.1 = E0.getD 0 0)) (fun od p x H2 Y Z hp e2 hx hy hno => ?_) (fun A HA eA nA hA => ?_)
        · obtain ⟨t, rfl, ht⟩ := hx
          have hl2 : H2 ea = some (.lst ((E0.map fun i : Nat => (i : Int)).map V.int)) := e2 _ _ (by rw [upd_ne (ne_of hEl hF fun z => nomatch z)]; exact hEl)
          refine ⟨rfl, _, rfl, t, _, 0, _, rfl, rfl, SqT.of ht, atI_of (j := 0) rfl rfl, _, rfl, ea, _, (0 : Nat), _, rfl, rfl, SqL.of hl2, ints_at (by omega), rfl, _, rfl, ?_⟩
          by_cases hq : p.1 = E0.getD 0 0
          · rw [decide_eq_true (show V.int (p.1 : Int) = V.int (E0.getD 0 0 : Nat) by rw [hq])]
            exact iteT ⟨_, rfl, hy (decide_eq_true hq) _ (Ex.refl _)⟩
          · rw [decide_eq_false fun h => hq (by have := V.int.inj h; omega)]
            exact iteF (hno (decide_eq_false hq) _ (Ex.refl _))
        refine lkT_lc (eA _ _ hF) (by omega) (fun od R r => ⟨_, rfl, r⟩) (fun p => decide (p.2 = S0.getD 0 0)) (fun od p x H2 Y Z hp e2 hx hy hno => ?_) (fun B HB eB nB hB => ?_)
        · obtain ⟨t, rfl, ht⟩ := hx
          have hl2 : H2 sa = some (.lst ((S0.map fun i : Nat => (i : Int)).map V.int)) := e2 _ _ (by rw [upd_ne (ne_of hSl hF fun z => nomatch z)]; exact eA _ _ hSl)
          refine ⟨rfl, _, rfl, t, _, 1, _, rfl, rfl, SqT.of ht, atI_of (j := 1) rfl rfl, _, rfl, sa, _, (0 : Nat), _, rfl, rfl, SqL.of hl2, ints_at (by omega), rfl, _, rfl, ?_⟩
          by_cases hq : p.2 = S0.getD 0 0
          · rw [decide_eq_true (show V.int (p.2 : Int) = V.int (S0.getD 0 0 : Nat) by rw [hq])]
            exact iteT ⟨_, rfl, hy (decide_eq_true hq) _ (Ex.refl _)⟩
          · rw [decide_eq_false fun h => hq (by have := V.int.inj h; omega)]
            exact iteF (hno (decide_eq_false hq) _ (Ex.refl _))
        refine ⟨s2, fun T nT => ?_⟩
        have xT := Ex.new (o := .tup [.ref A, .ref B]) nT
        refine q T A B _ ((eA.trans eB).trans xT) upd_same _ _ (fun p => ?_) (fun p => ?_) ((hA.ex eB).ex xT) (hB.ex xT)
        · rw [decide_eq_true_iff]; unfold Sel1; rw [if_neg h1, if_neg h2]
        · rw [decide_eq_true_iff]; unfold Sel2; rw [if_neg h1, if_neg h2]
end

/-! ### the fewest windows that join, told -/
section
variable {ws : List Str} {m n : Nat} {lot : Str → Nat}
theorem few_many (W : Wl ws n (letsOf ws)) (L : Lt ws m lot) (h2 : 2 ≤ m) (h : 2 < (tops m (lle ws lot)).length ∨ 2 < (tops m (flip2 (lle ws lot))).length) : fewN ws = none := by
  have := told_few W L h2 (r := none) ⟨fun _ => rfl, fun a b _ => by omega, fun no => absurd h no⟩
  exact this.symm
theorem few_one (W : Wl ws n (letsOf ws)) (L : Lt ws m lot) (h2 : 2 ≤ m) (a : (tops m (lle ws lot)).length = 1) (b : (tops m (flip2 (lle ws lot))).length = 1) (c : ArcP ws lot ((tops m (lle ws lot)).getD 0 0) ((tops m (flip2 (lle ws lot))).getD 0 0)) : fewN ws = some 1 := by
  have := told_few W L h2 (r := some 1) ⟨fun h => by omega, fun _ _ _ => rfl, fun _ no => absurd ⟨a, b, c⟩ no⟩
  exact this.symm
def Not1 (ws : List Str) (m : Nat) (lot : Str → Nat) : Prop := ¬ ((tops m (lle ws lot)).length = 1 ∧ (tops m (flip2 (lle ws lot))).length = 1 ∧ ArcP ws lot ((tops m (lle ws lot)).getD 0 0) ((tops m (flip2 (lle ws lot))).getD 0 0))
def Lng1 (ws : List Str) (n m : Nat) (lot : Str → Nat) : Prop := 3 ≤ n ∧ (tops m (lle ws lot)).length = 1 ∧ (tops m (flip2 (lle ws lot))).length = 1 ∧ LongP ws lot ((tops m (lle ws lot)).getD 0 0) ((tops m (flip2 (lle ws lot))).getD 0 0)
theorem few_two2 (W : Wl ws n (letsOf ws)) (L : Lt ws m lot) (h2 : 2 ≤ m) (nm : ¬ (2 < (tops m (lle ws lot)).length ∨ 2 < (tops m (flip2 (lle ws lot))).length)) (no : Not1 ws m lot)
    (h : Lng1 ws n m lot ∨ ∃ a b : Nat × Nat, ArcP ws lot a.1 a.2 ∧ ArcP ws lot b.1 b.2 ∧ Sg m (lle ws lot) (Arc2 a.1 a.2 b.1 b.2)) : fewN ws = some 2 := by
  have := told_few W L h2 (r := some 2) ⟨fun h => absurd h nm, fun a b c => absurd ⟨a, b, c⟩ no, fun _ _ => .inl ⟨rfl, h⟩⟩
  exact this.symm
theorem few_no (W : Wl ws n (letsOf ws)) (L : Lt ws m lot) (h2 : 2 ≤ m) (nm : ¬ (2 < (tops m (lle ws lot)).length ∨ 2 < (tops m (flip2 (lle ws lot))).length)) (no : Not1 ws m lot) (nl : ¬ Lng1 ws n m lot)
    (h : ∀ a b : Nat × Nat, ArcP ws lot a.1 a.2 → ArcP ws lot b.1 b.2 → Sel1 (tops m (lle ws lot)) (tops m (flip2 (lle ws lot))) a → Sel2 (tops m (lle ws lot)) (tops m (flip2 (lle ws lot))) b → ¬ Sg m (lle ws lot) (Arc2 a.1 a.2 b.1 b.2)) : fewN ws = none := by
  have := told_few W L h2 (r := none) ⟨fun _ => rfl, fun a b c => absurd ⟨a, b, c⟩ no, fun _ _ => .inr ⟨rfl, nl, h⟩⟩
  exact this.symm
theorem few_zero (L : Lt ws m lot) (h : m ≤ 1) : fewN ws = some 0 := by
  unfold fewN
  rw [if_pos (L.hang.mpr h)]
end
noncomputable def fewD (ws : List Str) : PyData := match fewN ws with
  | some k => .int (k : Int)
  | none => .none
theorem fewD_some {ws : List Str} {k : Nat} (h : fewN ws = some k) : fewD ws = .int (k : Int) := by
  unfold fewD
  rw [h]
theorem fewD_none {ws : List Str} (h : fewN ws = none) : fewD ws = .none := by
  unfold fewD
  rw [h]
theorem Bk.wl {n : Nat} {ws : List Str} (B : Bk n ws) : Wl ws n (letsOf ws) := Wl.own B.lo (fun x hx => (B.win.1 x hx).2) B.ne
section
variable {P : Program} {w : World} {K : PySem.W.Frag} {mg : Str → Option Value} {base : Heap}
theorem ts_splitR {t u : TS} {σ : L2.St} {H : Hp} {D : Ends} (P : L2.St → Hp → Prop) (ht : ∀ D' : Ends, D'.rt = D.rt → (∀ σ' H', P σ' H' → D'.nx σ' H') → t D' σ H) (hq : ∀ σ' H', P σ' H' → u D σ' H') : tSeq t u D σ H := ht _ rfl hq
def sp_fewest_joins (K : PySem.W.Frag) : Sp := fun vs H Q _ => ∃ (v : V) (n : Nat) (ws : List Str), vs = [v] ∧ Dp K H v (bookD n ws) ∧ Bk n ws ∧ RetD K (fewD ws) H Q
theorem ok_fewest_joins (T : Tx K mg) : Ok P w K mg base CX0 5 "fewest_joins" ["book"] (sp_fewest_joins K) := by
  refine T.d_fewest_joins.ok sc_fewest_joins (fun vs H Q E h => ?_) (fun f cdv A outer s H vs Q E hG hr h => ?_)
  · obtain ⟨v, n, ws, rfl, _⟩ := h
    rfl
  · obtain ⟨v, n, ws, rfl, hB, B, q⟩ := h
    refine ⟨_, (pss_cons (ps_asg (pe_callO (ok_knots_of T) hG (hr.mono (by decide)) (pa_cons (pv 0) pa_nil)) (pg_tup rfl (pgs_cons (pg_name (i := 1) sc_fewest_joins.nd rfl (Or.inl rfl)) (pgs_cons (pg_name (i := 2) sc_fewest_joins.nd rfl (Or.inr rfl)) pgs_nil)))) (pss_cons (ps_if (pt_cmpR op_eq (pe_callB (call_lenK (K := K)) (by rfl) T.b_len PySem.boot_len (pa_cons (pv 2) pa_nil)) pe_int (nomark _)) (pss_one (ps_ret pe_int)) pss_nil) (pss_cons (ps_set (i := 3) sc_fewest_joins.nd rfl (Or.inr rfl) (pe_callO (ok_turned_about T) hG (hr.mono (by decide)) (pa_cons (pv 2) pa_nil))) (pss_cons (ps_setLc (i := 4) (own := [("lot", 12)]) (g := gName 12) rfl sc_fewest_joins.nd rfl rfl (sw_true rfl rfl rfl (by decide +kernel)) (pi_range1 (by rfl) T.b_range (pa_cons (pe_callB (call_lenK (K := K)) (by rfl) T.b_len PySem.boot_len (pa_cons (pv 2) pa_nil)) pa_nil)) (blkOk_by (own := [("lot", 12)]) (N := n_fewest_joins) (sc := defScope s_fewest_joins) (by decide +kernel)) (fun _ _ _ _ _ => pg_name (i := 12) sc_fewest_joins.nd rfl (Or.inl rfl)) (fun _ _ _ _ _ => pts_one (pt_cmpR op_eq (pe_callB call_lenD (by rfl) T.b_len PySem.boot_len (pa_cons (pe_ix (ix_listK (K := K)) (pv 2) (pv 12) (fun _ _ => rfl)) pa_nil)) pe_int (nomark _))) (fun _ _ _ _ _ => (pv 12))) (pss_cons (ps_setLc (i := 5) (own := [("lot", 12)]) (g := gName 12) rfl sc_fewest_joins.nd rfl rfl (sw_true rfl rfl rfl (by decide +kernel)) (pi_range1 (by rfl) T.b_range (pa_cons (pe_callB (call_lenK (K := K)) (by rfl) T.b_len PySem.boot_len (pa_cons (pv 2) pa_nil)) pa_nil)) (blkOk_by (own := [("lot", 12)]) (N := n_fewest_joins) (sc := defScope s_fewest_joins) (by decide +kernel)) (fun _ _ _ _ _ => pg_name (i := 12) sc_fewest_joins.nd rfl (Or.inl rfl)) (fun _ _ _ _ _ => pts_one (pt_cmpR op_eq (pe_callB call_lenD (by rfl) T.b_len PySem.boot_len (pa_cons (pe_ix (ix_listK (K := K)) (pv 3) (pv 12) (fun _ _ => rfl)) pa_nil)) pe_int (nomark _))) (fun _ _ _ _ _ => (pv 12))) (pss_cons (ps_if (PW.pt (pw_or (pt_cmpR op_gt (pe_callB (call_lenK (K := K)) (by rfl) T.b_len PySem.boot_len (pa_cons (pv 4) pa_nil)) pe_int (nomark _)) (pw_or1 (pt_cmpR op_gt (pe_callB (call_lenK (K := K)) (by rfl) T.b_len PySem.boot_len (pa_cons (pv 5) pa_nil)) pe_int (nomark _))))) (pss_one (ps_ret pe_non)) pss_nil) (pss_cons (ps_par (i := 6) (j := 7) rfl sc_fewest_joins.nd rfl rfl (by decide) rfl rfl (pa_cons (pe_callO (ok_arcs_of T) hG (hr.mono (by decide)) (pa_cons (pv 0) (pa_cons (pv 1) pa_nil))) (pa_cons (pe_chain op_eq op_eq (pe_callB (call_lenK (K := K)) (by rfl) T.b_len PySem.boot_len (pa_cons (pv 4) pa_nil)) (pe_callB (call_lenK (K := K)) (by rfl) T.b_len PySem.boot_len (pa_cons (pv 5) pa_nil)) pe_int) pa_nil)) (by rfl)) (pss_cons (ps_if (PW.pt (pw_and (pt_val (pv 7)) (pw_and1 (pt_cmp (pc_din (hu_of hr) (pe_tup (pa_cons (pe_ix (ix_listK (K := K)) (pv 4) pe_int (fun _ _ => rfl)) (pa_cons (pe_ix (ix_listK (K := K)) (pv 5) pe_int (fun _ _ => rfl)) pa_nil))) (pv 6)))))) (pss_one (ps_ret pe_int)) pss_nil) (pss_cons (ps_if (PW.pt (pw_and (pt_val (pv 7)) (pw_and1 (pt_cmp (pc_din (hu_of hr) (pe_tup (pa_cons (pe_ix (ix_listK (K := K)) (pv 4) pe_int (fun _ _ => rfl)) (pa_cons (pe_ix (ix_listK (K := K)) (pv 5) pe_int (fun _ _ => rfl)) pa_nil))) (pe_callO (ok_long_arcs_of T) hG (hr.mono (by decide)) (pa_cons (pv 0) (pa_cons (pv 1) pa_nil)))))))) (pss_one (ps_ret pe_int)) pss_nil) (pss_cons (ps_asg (pe_callO (ok_first_and_second T) hG (hr.mono (by decide)) (pa_cons (pv 6) (pa_cons (pv 4) (pa_cons (pv 5) pa_nil)))) (pg_tup rfl (pgs_cons (pg_name (i := 8) sc_fewest_joins.nd rfl (Or.inl rfl)) (pgs_cons (pg_name (i := 9) sc_fewest_joins.nd rfl (Or.inl rfl)) pgs_nil)))) (pss_cons (ps_for PassesOwn.never rfl (pi_listK (K := K) (pv 8)) (pg_name (i := 10) sc_fewest_joins.nd rfl (Or.inl rfl)) (pss_one (ps_for PassesOwn.never rfl (pi_listK (K := K) (pv 9)) (pg_name (i := 11) sc_fewest_joins.nd rfl (Or.inl rfl)) (pss_one (ps_if (pt_val (pe_callO (ok_hangs_by T) hG (hr.mono (by decide)) (pa_cons (pv 2) (pa_cons (pv 3) (pa_cons (pe_lst (pa_cons (pv 10) (pa_cons (pv 11) pa_nil))) pa_nil))))) (pss_one (ps_ret pe_int)) pss_nil))))) (pss_one (ps_ret pe_non))))))))))))), ?_⟩
    have few := B.few
    have W0 := B.wl
    have s2 : 2 ≤ sizeLine := sz_of (by omega)
    refine ⟨_, rfl, v, n, ws, rfl, hB, B.ws, fun T0 L O ks lt m H1 e1 hT hL nd mem L0 mk hO => ?_⟩
    have P0 := L0.po
    have m0 : 0 < m := by
      obtain ⟨x, hx⟩ := List.exists_mem_of_ne_nil _ B.ne
      have := L0.lt _ (beg_mem hx)
      omega
    have kl : ks.length ≤ 160 := by
      have := nodup_len nd (l := plcs ws) fun y hy => (mem y).mp hy
      rw [plcs_len] at this
      omega
    obtain ⟨acc, hA, hl, hat⟩ := onw_at (K := K) hO
    refine ⟨T0, _, rfl, SqT.of hT, rfl, _, _, rfl, _, _, rfl, rfl, ?_⟩
    refine ⟨_, rfl, O, acc, rfl, .inl hA, rfl, _, rfl, ?_⟩
    by_cases h1 : m = 1
    · rw [decide_eq_true (show V.int (acc.length : Int) = V.int 1 by rw [hl, h1]; rfl)]
      refine iteT (q _ _ e1 ?_)
      rw [fewD_some (few_zero L0 (by omega))]
      exact .int _
    rw [decide_eq_false fun h => h1 (by have := V.int.inj h; omega)]
    have h2 : 2 ≤ m := by omega
    refine iteF ⟨_, rfl, O, m, lle ws lt, rfl, hO, P0, by omega, fun C H2 e2 hC => ?_⟩
    obtain ⟨bcc, hBk, hbl, hbt⟩ := onw_at (K := K) hC
    -- ends
    have isTop : ∀ {le : Nat → Nat → Prop} {i : Nat} {ks : List Nat}, Po m le → i < m → ks.Nodup → (∀ j, j ∈ ks ↔ le i j) → (ks.length = 1 ↔ Mx m le i) := fun {le i ks} P1 hi nd mem => by
      rw [one_len nd ((mem i).mpr (P1.rf i hi))]
      exact ⟨fun h => ⟨hi, fun j hj => h j ((mem j).mpr hj)⟩, fun h j hj => h.2 j ((mem j).mp hj)⟩
    have lm : ((acc.length : Nat) : Int).toNat = m := by omega
    refine ⟨_, rfl, O, acc, rfl, .inl (ex_l e2 hA), _, rfl, by omega, by omega, fun De nDe => ?_⟩
    rw [lm]
    refine lc_rng K (n := m) (fun i => @decide (Mx m (lle ws lt) i) (Classical.propDecidable _)) (fun i => PyData.int (i : Int)) nDe (by omega) (fun _ _ => rfl) (fun i x H3 Y Z hi e3 it hy hn => ?_) (fun H3 acc1 e3 hDe ha => ?_)
    · subst it
      obtain ⟨r, hr1, r', kr, er, hr2, hr3, hr4⟩ := hat i hi
      cases er
      have tp := isTop P0 hi hr3 hr4
      have i0 : (0 : Int) + (i : Int) = (i : Int) := Int.zero_add _
      rw [i0]
      refine ⟨rfl, _, rfl, _, rfl, O, acc, _, _, rfl, rfl, ex_l (e2.trans e3) hA, hr1, r, _, rfl, (e2.trans e3) _ _ hr2, rfl, _, rfl, ?_⟩
      rw [truG_len]
      by_cases ht : Mx m (lle ws lt) i
      · rw [decide_eq_true (show V.int (kr.length : Int) = V.int 1 by rw [tp.mpr ht]; rfl)]
        exact iteT ⟨_, rfl, hy ((@decide_eq_true_iff _ (Classical.propDecidable _)).mpr ht) _ _ (Ex.refl _) (.int _)⟩
      · rw [decide_eq_false fun h => ht (tp.mp (by have := V.int.inj h; omega))]
        exact iteF (hn (by rw [@decide_eq_false_iff_not _ (Classical.propDecidable _)]; exact ht) _ (Ex.refl _))
    have ha1 : acc1 = ((tops m (lle ws lt)).map fun i : Nat => (i : Int)).map V.int := ints_dpa (by rw [List.map_map]; exact ha)
    subst ha1
    clear ha
    have hE : IntsAt H3 De (tops m (lle ws lt)) := hDe
    -- starts
    refine ⟨_, rfl, O, acc, rfl, .inl (ex_l (e2.trans e3) hA), _, rfl, by omega, by omega, fun Ds nDs => ?_⟩
    rw [lm]
    refine lc_rng K (n := m) (fun i => @decide (Mx m (flip2 (lle ws lt)) i) (Classical.propDecidable _)) (fun i => PyData.int (i : Int)) nDs (by omega) (fun _ _ => rfl) (fun i x H4 Y Z hi e4 it hy hn => ?_) (fun H4 acc1 e4 hDs ha => ?_)
    · subst it
      obtain ⟨r, hr1, r', kr, er, hr2, hr3, hr4⟩ := hbt i hi
      cases er
      have tp := isTop P0.flip hi hr3 hr4
      have i0 : (0 : Int) + (i : Int) = (i : Int) := Int.zero_add _
      rw [i0]
      refine ⟨rfl, _, rfl, _, rfl, C, bcc, _, _, rfl, rfl, ex_l (e3.trans e4) hBk, hr1, r, _, rfl, (e3.trans e4) _ _ hr2, rfl, _, rfl, ?_⟩
      rw [truG_len]
      by_cases ht : Mx m (flip2 (lle ws lt)) i
      · rw [decide_eq_true (show V.int (kr.length : Int) = V.int 1 by rw [tp.mpr ht]; rfl)]
        exact iteT ⟨_, rfl, hy ((@decide_eq_true_iff _ (Classical.propDecidable _)).mpr ht) _ _ (Ex.refl _) (.int _)⟩
      · rw [decide_eq_false fun h => ht (tp.mp (by have := V.int.inj h; omega))]
        exact iteF (hn (by rw [@decide_eq_false_iff_not _ (Classical.propDecidable _)]; exact ht) _ (Ex.refl _))
    have ha1 : acc1 = ((tops m (flip2 (lle ws lt))).map fun i : Nat => (i : Int)).map V.int := ints_dpa (by rw [List.map_map]; exact ha)
    subst ha1
    clear ha
    have hS : IntsAt H4 Ds (tops m (flip2 (lle ws lt))) := hDs
    have hE4 : IntsAt H4 De (tops m (lle ws lt)) := e4 _ _ hE
    have e24 := (e1.trans e2).trans (e3.trans e4)
    have E1 := tops_pos P0 m0
    have S1 := tops_pos P0.flip m0
    have eLen : ((((tops m (lle ws lt)).map fun i : Nat => (i : Int)).map V.int).length : Nat) = (tops m (lle ws lt)).length := by rw [List.length_map, List.length_map]
    have sLen : ((((tops m (flip2 (lle ws lt))).map fun i : Nat => (i : Int)).map V.int).length : Nat) = (tops m (flip2 (lle ws lt))).length := by rw [List.length_map, List.length_map]
    have wdE := fun h => few_many W0 L0 h2 h
    have nmArc : ∀ {p : Nat × Nat}, ArcP ws lt p.1 p.2 → p.1 < m ∧ p.2 < m := fun {p} ⟨_, a, b, ha, hb, e1, e2, _⟩ => ⟨e1 ▸ L0.lt a ha, e2 ▸ L0.lt b hb⟩
    have toE : tops m (lle ws lt) = tops m (lle ws lt) := rfl
    refine ⟨_, rfl, De, _, rfl, .inl (SqL.of hE4), _, _, rfl, rfl, _, rfl, ?_⟩
    rw [eLen]
    by_cases hb1 : 2 < (tops m (lle ws lt)).length
    · rw [decide_eq_true (show ((tops m (lle ws lt)).length : Int) > 2 by omega)]
      refine iteT (iteT (q _ _ e24 ?_))
      rw [fewD_none (wdE (.inl hb1))]
      exact .non
    rw [decide_eq_false (show ¬ ((tops m (lle ws lt)).length : Int) > 2 by omega)]
    refine iteF ⟨_, rfl, Ds, _, rfl, .inl (SqL.of hS), _, _, rfl, rfl, _, rfl, ?_⟩
    rw [sLen]
    by_cases hb2 : 2 < (tops m (flip2 (lle ws lt))).length
    · rw [decide_eq_true (show ((tops m (flip2 (lle ws lt))).length : Int) > 2 by omega)]
      refine iteT (q _ _ e24 ?_)
      rw [fewD_none (wdE (.inr hb2))]
      exact .non
    rw [decide_eq_false (show ¬ ((tops m (flip2 (lle ws lt))).length : Int) > 2 by omega)]
    have nm : ¬ (2 < (tops m (lle ws lt)).length ∨ 2 < (tops m (flip2 (lle ws lt))).length) := by omega
    refine iteF ⟨_, rfl, _, rfl, v, L, n, ws, ks, lt, rfl, dp_ex e24 hB, B, (e2.trans (e3.trans e4)) _ _ hL, by omega, mem, fun F H5 ps e5 hF pl hps => ?_⟩
    have hE5 : IntsAt H5 De (tops m (lle ws lt)) := e5 _ _ hE4
    have hS5 : IntsAt H5 Ds (tops m (flip2 (lle ws lt))) := e5 _ _ hS
    have e25 := e24.trans e5
    refine te_split (t := tChain _ _ _ _ _) (fun v H' => v = .bl (decide ((tops m (lle ws lt)).length = 1 ∧ (tops m (flip2 (lle ws lt))).length = 1)) ∧ H' = H5) (fun R hR => ?_) ?_
    · refine ⟨_, rfl, De, _, rfl, .inl (SqL.of hE5), _, rfl, Ds, _, rfl, .inl (SqL.of hS5), rfl, _, rfl, ?_⟩
      rw [eLen, sLen]
      by_cases h3 : (tops m (lle ws lt)).length = (tops m (flip2 (lle ws lt))).length
      · rw [decide_eq_true (show V.int ((tops m (lle ws lt)).length : Int) = V.int ((tops m (flip2 (lle ws lt))).length : Int) by rw [h3])]
        refine iteT ⟨rfl, hR _ _ ⟨?_, rfl⟩⟩
        refine congrArg V.bl (decide_eq_decide.mpr ⟨fun h => ?_, fun h => by rw [h.2]; rfl⟩)
        have := V.int.inj h
        omega
      · rw [decide_eq_false fun h => h3 (by have := V.int.inj h; omega)]
        refine iteF (hR _ _ ⟨?_, rfl⟩)
        rw [decide_eq_false fun h => h3 (by omega)]
    rintro v1 H' ⟨rfl, hH⟩
    rw [hH]
    clear hH H'
    refine ⟨_, _, rfl, ?_⟩
    dsimp only
    -- one arc
    refine ts_splitR (t := tIfS _ _ _) (fun σ' H' => σ' = [some v, some (.ref L), some (.ref O), some (.ref C), some (.ref De), some (.ref Ds), some (.ref F), some (.bl (decide ((tops m (lle ws lt)).length = 1 ∧ (tops m (flip2 (lle ws lt))).length = 1))), none, none, none, none, none] ∧ Ex H5 H' ∧ Not1 ws m lt) (fun D' hrt hD => ?_) ?_
    · refine ⟨_, rfl, _, rfl, ?_⟩
      by_cases one : (tops m (lle ws lt)).length = 1 ∧ (tops m (flip2 (lle ws lt))).length = 1
      · rw [decide_eq_true one]
        refine iteT ⟨_, rfl, De, _, ((0 : Nat) : Int), _, rfl, rfl, SqL.of hE5, ints_at (by omega), _, rfl, Ds, _, ((0 : Nat) : Int), _, rfl, rfl, SqL.of hS5, ints_at (by omega), s2, fun p np => ⟨_, rfl, F, _, rfl, DGet.t (k := kP ((tops m (lle ws lt)).getD 0 0, (tops m (flip2 (lle ws lt))).getD 0 0)) (Ex.new np _ _ hF) upd_same, _, rfl, ?_⟩⟩
        rw [truP_in]
        by_cases hin : ((tops m (lle ws lt)).getD 0 0, (tops m (flip2 (lle ws lt))).getD 0 0) ∈ ps
        · rw [decide_eq_true hin]
          refine iteT ?_
          show D'.rt (.int 1) _
          rw [hrt]
          refine q _ _ (e25.trans (Ex.new np)) ?_
          rw [fewD_some (few_one W0 L0 h2 one.1 one.2 ((hps _ _).mp hin))]
          exact .int _
        · rw [decide_eq_false hin]
          exact iteF (hD _ _ ⟨by rw [decide_eq_true one]; rfl, Ex.new np, fun h => hin ((hps _ _).mpr h.2.2)⟩)
      · rw [decide_eq_false one]
        exact iteF (hD _ _ ⟨by rw [decide_eq_false one]; rfl, Ex.refl _, fun h => one ⟨h.1, h.2.1⟩⟩)
    rintro σ' H6 ⟨rfl, e6, no1⟩
    have hF6 := e6 _ _ hF
    have hE6 : IntsAt H6 De (tops m (lle ws lt)) := e6 _ _ hE5
    have hS6 : IntsAt H6 Ds (tops m (flip2 (lle ws lt))) := e6 _ _ hS5
    -- two windows by a new place
    refine ts_splitR (t := tIfS _ _ _) (fun σ' H' => σ' = [some v, some (.ref L), some (.ref O), some (.ref C), some (.ref De), some (.ref Ds), some (.ref F), some (.bl (decide ((tops m (lle ws lt)).length = 1 ∧ (tops m (flip2 (lle ws lt))).length = 1))), none, none, none, none, none] ∧ Ex H6 H' ∧ ¬ Lng1 ws n m lt) (fun D' hrt hD => ?_) ?_
    · refine ⟨_, rfl, _, rfl, ?_⟩
      by_cases one : (tops m (lle ws lt)).length = 1 ∧ (tops m (flip2 (lle ws lt))).length = 1
      · rw [decide_eq_true one]
        refine iteT ⟨_, rfl, De, _, ((0 : Nat) : Int), _, rfl, rfl, SqL.of hE6, ints_at (by omega), _, rfl, Ds, _, ((0 : Nat) : Int), _, rfl, rfl, SqL.of hS6, ints_at (by omega), s2, fun p np => ?_⟩
        have xp := Ex.new (o := .tup [.int ((tops m (lle ws lt)).getD 0 0 : Nat), .int ((tops m (flip2 (lle ws lt))).getD 0 0 : Nat)]) np
        refine ⟨_, rfl, _, rfl, v, L, n, ws, ks, lt, rfl, dp_ex ((e25.trans e6).trans xp) hB, B, ((e2.trans (e3.trans e4)).trans ((e5.trans e6).trans xp)) _ _ hL, by omega, mem, fun F2 H7 ps2 e7 hF2 pl2 hps2 => ⟨F2, _, rfl, DGet.t (k := kP ((tops m (lle ws lt)).getD 0 0, (tops m (flip2 (lle ws lt))).getD 0 0)) hF2 (e7 _ _ upd_same), _, rfl, ?_⟩⟩
        rw [truP_in]
        by_cases hin : ((tops m (lle ws lt)).getD 0 0, (tops m (flip2 (lle ws lt))).getD 0 0) ∈ ps2
        · rw [decide_eq_true hin]
          refine iteT ?_
          show D'.rt (.int 2) _
          rw [hrt]
          refine q _ _ ((e25.trans e6).trans (xp.trans e7)) ?_
          obtain ⟨g1, g2⟩ := (hps2 _ _).mp hin
          rw [fewD_some (few_two2 W0 L0 h2 nm no1 (.inl ⟨g1, one.1, one.2, g2⟩))]
          exact .int _
        · rw [decide_eq_false hin]
          exact iteF (hD _ _ ⟨by rw [decide_eq_true one], xp.trans e7, fun h => hin ((hps2 _ _).mpr ⟨h.1, h.2.2.2⟩)⟩)
      · rw [decide_eq_false one]
        exact iteF (hD _ _ ⟨by rw [decide_eq_false one], Ex.refl _, fun h => one ⟨h.2.1, h.2.2.1⟩⟩)
    rintro σ' H7 ⟨rfl, e7, no2⟩
    have hF7 := e7 _ _ hF6
    have e27 := (e25.trans e6).trans e7
    have e17 := (e2.trans (e3.trans e4)).trans ((e5.trans e6).trans e7)
    have e57 := ((e3.trans e4).trans e5).trans (e6.trans e7)
    refine ⟨_, rfl, _, rfl, _, rfl, F, De, Ds, ps, _, _, rfl, hF7, pl, (e7 _ _ hE6 : IntsAt H7 De (tops m (lle ws lt))), (e7 _ _ hS6 : IntsAt H7 Ds (tops m (flip2 (lle ws lt)))), by omega, by omega, by omega, by omega, fun T1 A1 B1 H8 e8 hT1 f g hf hg hA1 hB1 => ?_⟩
    obtain ⟨ac, hAl, hA2⟩ := hA1
    obtain ⟨bc, hBl, hB2⟩ := hB1
    refine ⟨T1, _, rfl, SqT.of hT1, rfl, _, _, rfl, _, _, rfl, rfl, ?_⟩
    have e28 := e27.trans e8
    have toP : ∀ {h : Nat × Nat → Bool} {p : Nat × Nat}, p ∈ ps.filter h → ArcP ws lt p.1 p.2 ∧ h p = true := fun {h p} hp => by
      obtain ⟨a1, a2⟩ := List.mem_filter.mp hp
      exact ⟨(hps p.1 p.2).mp a1, a2⟩
    refine ⟨_, rfl, A1, rfl, fo_lst (Hb := H8) (SqL.of hAl) (fun i σ H' => ∃ x10 x11, σ = [some v, some (.ref L), some (.ref O), some (.ref C), some (.ref De), some (.ref Ds), some (.ref F), some (.bl (decide ((tops m (lle ws lt)).length = 1 ∧ (tops m (flip2 (lle ws lt))).length = 1))), some (.ref A1), some (.ref B1), x10, x11, none] ∧ Ex H8 H' ∧
        ∀ p ∈ (ps.filter f).take i, ∀ p2 ∈ ps.filter g, ¬ Sg m (lle ws lt) (Arc2 p.1 p.2 p2.1 p2.2)) ⟨_, _, rfl, Ex.refl _, fun p hp => (List.not_mem_nil hp).elim⟩ (fun i σ H' ⟨_, _, _, e, _⟩ => e) ?_ ?_⟩
    · rintro i x σ H9 hi ⟨x10, x11, rfl, e9, none9⟩
      obtain ⟨p, hp, t, rfl, ht⟩ := hA2.at hi
      have hpm := toP (List.mem_of_getElem? hp)
      refine ⟨_, rfl, B1, rfl, fo_lst (Hb := H8) (SqL.of hBl) (fun j σ H' => ∃ x11, σ = [some v, some (.ref L), some (.ref O), some (.ref C), some (.ref De), some (.ref Ds), some (.ref F), some (.bl (decide ((tops m (lle ws lt)).length = 1 ∧ (tops m (flip2 (lle ws lt))).length = 1))), some (.ref A1), some (.ref B1), some (.ref t), x11, none] ∧ Ex H8 H' ∧
          ∀ p2 ∈ (ps.filter g).take j, ¬ Sg m (lle ws lt) (Arc2 p.1 p.2 p2.1 p2.2)) ⟨_, rfl, e9, fun p hp => (List.not_mem_nil hp).elim⟩ (fun i σ H' ⟨_, _, e, _⟩ => e) ?_ ?_⟩
      · rintro j x σ H10 hj ⟨x11, rfl, e10, none10⟩
        obtain ⟨p2, hp2, t2, rfl, ht2⟩ := hB2.at hj
        have hpm2 := toP (List.mem_of_getElem? hp2)
        refine ⟨_, rfl, _, rfl, _, rfl, _, rfl, s2, fun z nz => ?_⟩
        have xz := Ex.new (o := .lst [.ref t, .ref t2]) nz
        have arcs : ArcsAt (upd H10 z (.lst [.ref t, .ref t2])) z [p, p2] := ⟨_, upd_same, .cons ⟨t, rfl, (e10.trans xz) _ _ ht⟩ (.cons ⟨t2, rfl, (e10.trans xz) _ _ ht2⟩ .nil)⟩
        have eO := (e17.trans e8).trans (e10.trans xz)
        have eC := (e57.trans e8).trans (e10.trans xz)
        refine ⟨O, C, z, m, lle ws lt, p, p2, rfl, hO.ex eO, hC.ex eC, P0, m0, by omega, arcs, (nmArc hpm.1).1, (nmArc hpm2.1).1, (nmArc hpm.1).2, (nmArc hpm2.1).2, fun k H11 e11 hk => ⟨_, rfl, ?_⟩⟩
        cases k with
        | true =>
          refine iteT (q _ _ ((e28.trans e10).trans (xz.trans e11)) ?_)
          rw [fewD_some (few_two2 W0 L0 h2 nm no1 (.inr ⟨p, p2, hpm.1, hpm2.1, hk.mp rfl⟩))]
          exact .int _
        | false =>
          refine iteF ⟨_, rfl, e10.trans (xz.trans e11), fun p3 h3 => ?_⟩
          rw [take_snoc hp2] at h3
          rcases List.mem_append.mp h3 with h3 | h3
          · exact none10 p3 h3
          · rw [List.mem_singleton.mp h3]
            exact fun h => Bool.false_ne_true (hk.mpr h)
      · rintro σ H10 ⟨x11, rfl, e10, none10⟩
        rw [hB2.len, List.take_length] at none10
        refine ⟨_, _, rfl, e10, fun p3 h3 => ?_⟩
        rw [take_snoc hp] at h3
        rcases List.mem_append.mp h3 with h3 | h3
        · exact none9 p3 h3
        · rw [List.mem_singleton.mp h3]
          exact none10
    · rintro σ H9 ⟨x10, x11, rfl, e9, none9⟩
      rw [hA2.len, List.take_length] at none9
      refine q _ _ (e28.trans e9) ?_
      rw [fewD_none (few_no W0 L0 h2 nm no1 no2 fun a b ha hb s1 s2 => none9 a (List.mem_filter.mpr ⟨(hps _ _).mpr ha, (hf a).mpr s1⟩) b (List.mem_filter.mpr ⟨(hps _ _).mpr hb, (hg b).mpr s2⟩))]
      exact .non
theorem Bk.join {n : Nat} {ws more : List Str} (B : Bk n ws) (W : Win n more) (no : ∀ x ∈ more, x ∉ ws) (few : ws.length + more.length ≤ 80) : Bk n (sortS (ws ++ more)) := by
  refine ⟨B.lo, B.hi, ⟨fun x hx => ?_, sortS_asc (List.nodup_append.mpr ⟨B.win.2.nodup, W.2.nodup, fun a ha b hb e => no b hb (e ▸ ha)⟩)⟩, fun h => ?_, by rw [sortS_len, List.length_append]; exact few⟩
  · rcases List.mem_append.mp (sortS_mem.mp hx) with h | h
    · exact B.win.1 x h
    · exact W.1 x h
  · have h1 := sortS_len (ws ++ more)
    rw [h, List.length_append] at h1
    exact B.ne (List.length_eq_zero_iff.mp (by have : ([] : List Str).length = 0 := rfl; omega))
def sp_joined (K : PySem.W.Frag) : Sp := fun vs H Q _ => ∃ (v u : V) (n : Nat) (ws more : List Str), vs = [v, u] ∧ Dp K H v (bookD n ws) ∧ Dp K H u (strsT more) ∧ Bk n ws ∧ Win n more ∧ (∀ x ∈ more, x ∉ ws) ∧ ws.length + more.length ≤ 80 ∧ RetD K (bookD n (sortS (ws ++ more))) H Q
theorem ok_joined (T : Tx K mg) : Ok P w K mg base CX0 6 "joined" ["book", "more"] (sp_joined K) := by
  refine T.d_joined.ok sc_joined (fun vs H Q E h => ?_) (fun f cdv A outer s H vs Q E hG hr h => ?_)
  · obtain ⟨v, u, n, ws, more, rfl, _⟩ := h
    rfl
  · obtain ⟨v, u, n, ws, more, rfl, hB, hL, B, hW, no, few, q⟩ := h
    refine ⟨_, (pss_cons (ps_expr (pe_callO (ok_need_book T) hG (hr.mono (by decide)) (pa_cons (pv 0) pa_nil))) (pss_cons (ps_if (PW.pt (pw_or (pt_not (pt_val (pe_callO (ok_are_windows T) hG (hr.mono (by decide)) (pa_cons (pe_ix (ix_tupK (K := K)) (pv 0) pe_int (fun _ _ => rfl)) (pa_cons (pv 1) pa_nil))))) (pw_or1 (pt_val (pe_callB (cr_anyK (K := K) rfl) (by rfl) T.b_any (by decide +kernel) (pa_cons (pe_lc (own := [("window", 2)]) (g := gName 2) (tt := tYes) rfl sc_joined.nd (pi_tupK (K := K) (pv 1)) (blkOk_by (own := [("window", 2)]) (N := n_joined) (sc := defScope s_joined) (by decide +kernel)) (fun _ _ _ _ _ => pg_name (i := 2) sc_joined.nd rfl (Or.inl rfl)) (fun _ _ _ _ _ => pts_nil) (fun _ _ _ _ _ => (pe_cmpR (op_inK (K := K)) (pv 2) (pe_ix (ix_tupK (K := K)) (pv 0) pe_int (fun _ _ => rfl)) (by rfl)))) pa_nil)))))) (pss_one ps_never) pss_nil) (pss_one (ps_ret (pe_tup (pa_cons (pe_ix (ix_tupK (K := K)) (pv 0) pe_int (fun _ _ => rfl)) (pa_cons (pe_callTy (call_tupleK (K := K)) (by rfl) T.b_tuple (by decide +kernel) (pa_cons (pe_callB (cr_sortTp (K := K) hr.units) (by rfl) T.b_sorted (by decide +kernel) (pa_cons (pe_op (op_catAK (K := K)) (pe_ix (ix_tupK (K := K)) (pv 0) pe_int (fun _ _ => rfl)) (pv 1)) pa_nil)) pa_nil)) pa_nil))))))), ?_⟩
    refine ⟨_, rfl, v, n, ws, rfl, hB, B, fun H1 e1 => ?_⟩
    have hB1 := dp_ex e1 hB
    have hL1 := dp_ex e1 hL
    obtain ⟨a, t, rfl, h1, h2⟩ := dp_book hB1
    obtain ⟨b, rfl, h3⟩ := dp_strsT hL1
    have hi := B.hi
    have s2 : 2 ≤ sizeLine := sz_of (by omega)
    refine ⟨_, rfl, _, _, _, _, rfl, rfl, h1, atI_of (j := 0) rfl rfl, _, rfl, n, b, more, rfl, h3, hW, hi, by omega, fun c H2 e2 hc => ?_⟩
    obtain rfl := dp_bl hc
    refine ⟨true, rfl, iteF ⟨_, rfl, b, rfl, ⟨_, ex_t e2 h3⟩, fun D np => ?_⟩⟩
    refine lcs_tp (ex_t e2 h3) (fun _ => true) (fun x => PyData.bool (decide (x ∈ ws))) np (by omega) (fun _ _ => rfl) (fun z H2 Y Z hz e hy hn => ?_) (fun H' acc e hp ha => ?_)
    · refine ⟨rfl, lc_yes ⟨_, rfl, _, rfl, _, _, _, _, rfl, rfl, ex_t (e2.trans e) h1, atI_of (j := 1) rfl rfl, t, _, rfl, .inr (ex_t (e2.trans e) h2), rfl, flat_strs _, ?_⟩⟩
      show Y (.bl (inV (V.str z) (ws.map V.str))) H2
      rw [inV_strs]
      exact hy rfl _ _ (Ex.refl _) (.bl _)
    · rw [filter_true] at ha
      have ha := bls_all ha
      subst ha
      have et : ((more.map fun x => decide (x ∈ ws)).any id) = false := by
        rw [List.any_map]
        exact List.any_eq_false.mpr fun x hx h => no x hx (of_decide_eq_true h)
      have e3 := e2.trans e
      refine ⟨_, _, rfl, SqL.of hp, _, rfl, ?_⟩
      rw [et]
      refine iteF ⟨_, rfl, _, _, _, _, rfl, rfl, ex_t e3 h1, atI_of (j := 0) rfl rfl, _, rfl, _, _, _, _, rfl, rfl, ex_t e3 h1, atI_of (j := 1) rfl rfl, _, rfl, cat_strs (ex_t e3 h2) (ex_t e3 h3) (by omega) fun c H3 e4 hc => ?_⟩
      refine ⟨c, ws ++ more, rfl, hc, by rw [List.length_append]; omega, fun p np2 => ⟨p, _, rfl, .inl ⟨SqL.of upd_same, fun l nl => ⟨s2, fun bb nb => ?_⟩⟩⟩⟩
      refine q _ _ (((e1.trans e3).trans e4).trans (((Ex.new np2).trans (Ex.new nl)).trans (Ex.new nb))) ?_
      exact bookDp (SqT.of upd_same) (SqT.of (Ex.new nb _ _ upd_same))
def sp_least_join (K : PySem.W.Frag) : Sp := fun vs H Q _ => ∃ (v : V) (n : Nat) (ws : List Str), vs = [v] ∧ Dp K H v (bookD n ws) ∧ Bk n ws ∧ RetD K (fewD ws) H Q
theorem ok_least_join (T : Tx K mg) : Ok P w K mg base CX0 6 "least_join" ["book"] (sp_least_join K) := by
  refine T.d_least_join.ok sc_least_join (fun vs H Q E h => ?_) (fun f cdv A outer s H vs Q E hG hr h => ?_)
  · obtain ⟨v, n, ws, rfl, _⟩ := h
    rfl
  · obtain ⟨v, n, ws, rfl, hB, B, q⟩ := h
    refine ⟨_, (pss_cons (ps_expr (pe_callO (ok_need_book T) hG (hr.mono (by decide)) (pa_cons (pv 0) pa_nil))) (pss_one (ps_ret (pe_callO (ok_fewest_joins T) hG (hr.mono (by decide)) (pa_cons (pv 0) pa_nil))))), ?_⟩
    refine ⟨_, rfl, v, n, ws, rfl, hB, B, fun H1 e1 => ⟨_, rfl, v, n, ws, rfl, dp_ex e1 hB, B, fun u H2 e2 hu => q _ _ (e1.trans e2) hu⟩⟩
end

/-! ### what the law tries -/
theorem sum_len_le {ws : List Str} {m : Nat} (h : ∀ x ∈ ws, x.length ≤ m) : (ws.map (·.length)).sum ≤ ws.length * m := by
  induction ws with
  | nil => exact Nat.zero_le _
  | cons x ws ih =>
    have h1 := h x (List.mem_cons_self ..)
    have h2 := ih fun y hy => h y (List.mem_cons_of_mem _ hy)
    rw [List.map_cons, List.sum_cons, List.length_cons, Nat.add_mul, Nat.one_mul]
    show x.length + _ ≤ _
    omega
theorem letsOf_len (ws : List Str) : (letsOf ws).length = (ws.map (·.length)).sum := by
  unfold letsOf
  rw [List.length_flatMap]
  rfl
theorem Fur.congr {us S S' : List Str} {ls : List Nat} {x : Str} (h : ∀ p, p ∈ S ↔ p ∈ S') : Fur us S ls x ↔ Fur us S' ls x := by
  unfold Fur
  exact ⟨fun ⟨p, hp, r⟩ => ⟨p, (h p).mp hp, r⟩, fun ⟨p, hp, r⟩ => ⟨p, (h p).mpr hp, r⟩⟩
section
variable {P : Program} {w : World} {K : PySem.W.Frag} {mg : Str → Option Value} {base : Heap}
def sp_law_further (K : PySem.W.Frag) : Sp := fun vs H Q _ => ∃ (a b c : Addr) (us S lts : List Str), vs = [.ref a, .ref b, .ref c] ∧ SqL K H a (us.map V.str) ∧ SqL K H b (S.map V.str) ∧ SqL K H c (lts.map V.str) ∧ us.length ≤ 1000 ∧ S.length ≤ 1000 ∧ lts.length ≤ 500 ∧ (∀ p ∈ S, p.length ≤ 100) ∧ (∀ l ∈ lts, l.length ≤ 100) ∧ NewL (furL us S lts) H Q
theorem ok_law_further (T : Tx K mg) : Ok P w K mg base CX0 1 "_law_further" ["windows", "spots", "letters"] (sp_law_further K) := by
  refine T.d_law_further.ok sc_law_further (fun vs H Q E h => ?_) (fun f cdv A outer s H vs Q E hG hr h => ?_)
  · obtain ⟨a, b, c, us, S, lts, rfl, _⟩ := h
    rfl
  · obtain ⟨a, b, c, us, S, lts, rfl, hA, hB, hC, lu, lS, ll, lp, l1, q⟩ := h
    refine ⟨_, (pss_cons (ps_set (i := 3) sc_law_further.nd rfl (Or.inl rfl) (pe_lst pa_nil)) (pss_cons (ps_for PassesOwn.never rfl (pi_listK (K := K) (pv 1)) (pg_name (i := 4) sc_law_further.nd rfl (Or.inr rfl)) (pss_one (ps_set (i := 3) sc_law_further.nd rfl (Or.inl rfl) (pe_op op_cat (pv 3) (pe_lc (own := [("letter", 5)]) (g := gName 5) rfl sc_law_further.nd (pi_listK (K := K) (pv 2)) (blkOk_by (own := [("letter", 5)]) (N := n_law_further) (sc := defScope s_law_further) (by decide +kernel)) (fun _ _ _ _ _ => pg_name (i := 5) sc_law_further.nd rfl (Or.inl rfl)) (fun _ _ _ _ _ => pts_one (pt_cmpR (op_notInK (K := K)) (pe_op op_add_str (pv 4) (pv 5)) (pv 0) (by rfl))) (fun _ _ _ _ _ => (pe_op op_add_str (pv 4) (pv 5)))))))) (pss_one (ps_ret (pv 3))))), ?_⟩
    have s0 : 0 ≤ sizeLine := sz_of (by omega)
    refine ⟨s0, fun F nF => ⟨_, rfl, b, rfl, fo_lst hB (fun i σ H' => ∃ F x4 x5, σ = [some (.ref a), some (.ref b), some (.ref c), some (.ref F), x4, x5] ∧ Ex H H' ∧ H F = none ∧ H' F = some (.lst ((furL us (S.take i) lts).map V.str))) ⟨F, _, _, rfl, Ex.new nF, nF, upd_same⟩ (fun i σ H' ⟨_, _, _, _, e, _⟩ => e) ?_ ?_⟩⟩
    · rintro i x σ H' hi ⟨F, x4, x5, rfl, e, nF, hF⟩
      obtain ⟨p, hp, rfl⟩ := str_at hi
      have pl := lp p (List.mem_of_getElem? hp)
      refine ⟨_, rfl, _, rfl, c, rfl, ⟨_, ex_l e hC⟩, fun D nD => ?_⟩
      refine lcs_lst (ex_l e hC) (fun l => !decide ((p ++ l) ∈ us)) (fun l => PyData.str (p ++ l)) nD (by omega) (fun _ _ => rfl) (fun z H2 Y Z hz e2 hy hn => ?_) (fun H1 acc e1 hD ha => ?_)
      · have zl := l1 z hz
        refine ⟨rfl, _, rfl, _, rfl, p, z, rfl, rfl, sz_of (by omega), _, rfl, _, _, rfl, .inl (ex_l (e.trans e2) hA), rfl, flat_strs _, _, rfl, ?_⟩
        show (fun b H4 => _) (!inV (V.str (p ++ z)) (us.map V.str)) H2
        rw [inV_strs]
        cases hb : (!decide ((p ++ z) ∈ us)) with
        | true => exact iteT ⟨_, rfl, _, rfl, p, z, rfl, rfl, sz_of (by omega), hy hb _ _ (Ex.refl _) (.str _)⟩
        | false => exact iteF (hn hb _ (Ex.refl _))
      · have ha : acc = ((lts.filter fun l => !decide ((p ++ l) ∈ us)).map fun l => p ++ l).map V.str := strs_dpa (by rw [List.map_map]; exact ha)
        subst ha
        have fl := furL_len us (S.take i) lts
        have f2 := List.length_filter_le (fun l => !decide ((p ++ l) ∈ us)) lts
        have f3 : (S.take i).length * lts.length ≤ 1000 * 500 := Nat.mul_le_mul (by rw [List.length_take]; omega) ll
        have hF1 := e1 _ _ hF
        refine ⟨F, D, _, _, rfl, rfl, hF1, hD, sz_of (by rw [List.length_map, List.length_map, List.length_map]; omega), fun p1 np1 => ⟨p1, _, _, rfl, (e.trans e1).trans (Ex.new np1), fresh_back (e.trans e1) np1, ?_⟩⟩
        rw [upd_same, take_snoc hp, furL_snoc, List.filter_map, List.map_append]
        rfl
    · rintro σ H' ⟨F, x4, x5, rfl, e, nF, hF⟩
      rw [List.length_map, take_len] at hF
      exact ⟨_, rfl, q F H' e nF hF⟩
theorem Ws.app {ws more : List Str} {n : Nat} (h : Ws ws) (hm : ∀ x ∈ more, Word x ∧ x.length = n) (n6 : n ≤ 100) (few : ws.length + more.length ≤ 1000) : Ws (ws ++ more) := ⟨fun x hx => by
  rcases List.mem_append.mp hx with hx | hx
  · exact h.wd x hx
  · obtain ⟨h1, h2⟩ := hm x hx
    exact ⟨h1, by omega⟩, by rw [List.length_append]; exact few⟩
/-- the letters of the windows, sorted -/
theorem letL_len {n : Nat} {ws : List Str} (B : Bk n ws) : (letL ws).length ≤ 500 ∧ ∀ l ∈ letL ws, l.length ≤ 100 := by
  have h1 := sum_len_le (m := 6) fun x hx => by
    have := (B.win.1 x hx).2
    have := B.hi
    show x.length ≤ 6
    omega
  have few := B.few
  refine ⟨?_, fun l hl => ?_⟩
  · unfold letL
    rw [sortS_len]
    have := ded_le ((letsOf ws).map one1)
    rw [List.length_map, letsOf_len] at this
    omega
  · obtain ⟨c, _, rfl⟩ := (letL_of ws l).mp hl
    show 1 ≤ 100
    omega
def sp_law_joins (K : PySem.W.Frag) : Sp := fun vs H Q _ => ∃ (v : V) (n : Nat) (ws : List Str), vs = [v] ∧ Dp K H v (bookD n ws) ∧ Bk n ws ∧ ∀ u H' o, Ex H H' → JoinR ws o → Dp K H' u (optD o) → Q u H'
theorem ok_law_joins (T : Tx K mg) : Ok P w K mg base CX0 3 "_law_joins" ["book"] (sp_law_joins K) := by
  refine T.d_law_joins.ok sc_law_joins (fun vs H Q E h => ?_) (fun f cdv A outer s H vs Q E hG hr h => ?_)
  · obtain ⟨v, n, ws, rfl, _⟩ := h
    rfl
  · obtain ⟨v, n, ws, rfl, hBk, B, q⟩ := h
    refine ⟨_, (pss_cons (ps_set (i := 1) sc_law_joins.nd rfl (Or.inl rfl) (pe_callTy (call_listK (K := K)) (by rfl) T.b_list (by decide +kernel) (pa_cons (pe_ix (ix_tupK (K := K)) (pv 0) pe_int (fun _ _ => rfl)) pa_nil))) (pss_cons (ps_if (pt_val (pe_callO (ok_law_hangs T) hG (hr.mono (by decide)) (pa_cons (pv 1) pa_nil))) (pss_one (ps_ret (pe_tup pa_nil))) pss_nil) (pss_cons (ps_par (i := 2) (j := 3) rfl sc_law_joins.nd rfl rfl (by decide) rfl rfl (pa_cons (pe_callB (cr_sortDct (K := K) rfl hr.units) (by rfl) T.b_sorted (by decide +kernel) (pa_cons (pe_callO (ok_law_ways_out T) hG (hr.mono (by decide)) (pa_cons (pv 1) pa_nil)) pa_nil)) (pa_cons (pe_callB (cr_sortDct (K := K) rfl hr.units) (by rfl) T.b_sorted (by decide +kernel) (pa_cons (pe_callO (ok_law_tally T) hG (hr.mono (by decide)) (pa_cons (pe_joinK (K := K) pe_str (pv 1)) pa_nil)) pa_nil)) pa_nil)) (by rfl)) (pss_cons (ps_set (i := 4) sc_law_joins.nd rfl (Or.inl rfl) (pe_callO (ok_law_further T) hG (hr.mono (by decide)) (pa_cons (pv 1) (pa_cons (pv 2) (pa_cons (pv 3) pa_nil))))) (pss_cons (ps_for PassesOwn.never rfl (pi_listK (K := K) (pv 4)) (pg_name (i := 5) sc_law_joins.nd rfl (Or.inl rfl)) (pss_one (ps_if (pt_val (pe_callO (ok_law_hangs T) hG (hr.mono (by decide)) (pa_cons (pe_op op_cat (pv 1) (pe_lst (pa_cons (pv 5) pa_nil))) pa_nil))) (pss_one (ps_ret (pe_tup (pa_cons (pv 5) pa_nil)))) pss_nil))) (pss_cons (ps_for PassesOwn.never rfl (pi_listK (K := K) (pv 4)) (pg_name (i := 5) sc_law_joins.nd rfl (Or.inl rfl)) (pss_one (ps_for PassesOwn.never rfl (pi_listK (K := K) (pe_callO (ok_law_further T) hG (hr.mono (by decide)) (pa_cons (pe_op op_cat (pv 1) (pe_lst (pa_cons (pv 5) pa_nil))) (pa_cons (pe_op op_cat (pv 2) (pe_lst (pa_cons (pe_slice sl_str (pv 5) (po_some pe_int) po_none) pa_nil))) (pa_cons (pv 3) pa_nil))))) (pg_name (i := 6) sc_law_joins.nd rfl (Or.inl rfl)) (pss_one (ps_if (pt_val (pe_callO (ok_law_hangs T) hG (hr.mono (by decide)) (pa_cons (pe_op op_cat (pv 1) (pe_lst (pa_cons (pv 5) (pa_cons (pv 6) pa_nil)))) pa_nil))) (pss_one (ps_ret (pe_callTy (call_tupleK (K := K)) (by rfl) T.b_tuple (by decide +kernel) (pa_cons (pe_callB (cr_sortLst (K := K) hr.units) (by rfl) T.b_sorted (by decide +kernel) (pa_cons (pe_lst (pa_cons (pv 5) (pa_cons (pv 6) pa_nil))) pa_nil)) pa_nil)))) pss_nil))))) (pss_one (ps_ret pe_non)))))))), ?_⟩
    have s0 : 0 ≤ sizeLine := sz_of (by omega)
    have s1 : 1 ≤ sizeLine := sz_of (by omega)
    have s2 : 2 ≤ sizeLine := sz_of (by omega)
    have few := B.few
    have hi6 := B.hi
    have lo2 := B.lo
    obtain ⟨bk, t, rfl, hb, ht⟩ := dp_book hBk
    refine ⟨_, rfl, _, _, _, _, rfl, rfl, hb, atI_of (j := 1) rfl rfl, t, _, rfl, .inr ht, fun l nl => ?_⟩
    have e0 : Ex H (upd H l (.lst (ws.map V.str))) := Ex.new nl
    have hl0 : (upd H l (.lst (ws.map V.str))) l = some (.lst (ws.map V.str)) := upd_same
    generalize upd H l (.lst (ws.map V.str)) = H0 at e0 hl0
    refine ⟨_, rfl, l, ws, rfl, .inl (SqL.of hl0), B.ws, fun b1 H1 e1 hb1 => ?_⟩
    obtain rfl := dp_bl hb1
    refine ⟨_, rfl, ?_⟩
    by_cases hh : Hang ws
    · rw [scB_hang B.ne hh]
      exact iteT ⟨s0, fun p np => q _ _ _ ((e0.trans e1).trans (Ex.new np)) (.zero hh) (.tup (SqT.of upd_same) .nil)⟩
    rw [scB_false fun z => hh z.2]
    have hl1 := e1 _ _ hl0
    have sl := sum_len_le (m := 6) fun x hx => by
      have := (B.win.1 x hx).2
      show x.length ≤ 6
      omega
    have pl : (places ws).length ≤ 160 := by
      have := places_len ws
      omega
    refine iteF ⟨_, rfl, l, ws, rfl, .inl (SqL.of hl1), B.ws, fun d H2 e2 nd wD => ?_⟩
    obtain ⟨rs, hd, _⟩ := wD
    have dl := ded_le (plcs ws)
    rw [plcs_len] at dl
    refine ⟨d, _, ded (plcs ws), rfl, .inl hd, wkv_keys _ _, by omega, fun sp nsp => ?_⟩
    have e3 := e2.trans (Ex.new (o := .lst ((sortS (ded (plcs ws))).map V.str)) nsp)
    have hsp : (upd H2 sp (.lst ((sortS (ded (plcs ws))).map V.str))) sp = some (.lst ((places ws).map V.str)) := upd_same
    generalize upd H2 sp (.lst ((sortS (ded (plcs ws))).map V.str)) = H3 at e3 hsp
    have hl3 := e3 _ _ hl1
    refine ⟨⟨_, rfl⟩, _, rfl, "", l, ws, rfl, rfl, .inl (SqL.of hl3), ?_, ?_⟩
    · have : ("" : Str).length = 0 := by decide +kernel
      rw [this]
      omega
    have lz : (sg (Txt.join ("" : Str) ws)).length ≤ 480 := by
      rw [join_letters, letsOf_len]
      omega
    refine .inr ⟨Txt.join "" ws, _, rfl, rfl, by rw [List.length_map]; omega, fun d2 H4 e4 nd2 hd2 => ⟨d2, _, ded ((sg (Txt.join "" ws)).map one1), rfl, .inl hd2, fkv_keys _ _, ?_, fun lt nlt => ?_⟩⟩
    · have := ded_le ((sg (Txt.join "" ws)).map one1)
      rw [List.length_map] at this
      omega
    rw [join_letters]
    have e5 := e4.trans (Ex.new (o := .lst ((sortS (ded ((letsOf ws).map one1))).map V.str)) nlt)
    have hlt : (upd H4 lt (.lst ((sortS (ded ((letsOf ws).map one1))).map V.str))) lt = some (.lst ((letL ws).map V.str)) := upd_same
    generalize upd H4 lt (.lst ((sortS (ded ((letsOf ws).map one1))).map V.str)) = H5 at e5 hlt
    obtain ⟨ll1, ll2⟩ := letL_len B
    have e05 := (e0.trans e1).trans (e3.trans e5)
    have hl5 := e5 _ _ hl3
    have hsp5 := e5 _ _ hsp
    have pw : ∀ p ∈ places ws, Word p ∧ p.length + 1 = n := fun p hp => plc_word B (places_mem.mp hp)
    refine ⟨_, _, rfl, _, rfl, _, rfl, _, rfl, l, sp, lt, ws, places ws, letL ws, rfl, SqL.of hl5, SqL.of hsp5, SqL.of hlt, by omega, by omega, ll1, fun p hp => by have := pw p hp; omega, ll2, fun f H6 e6 nf hf => ?_⟩
    have L := letL_of ws
    have mem1 : ∀ {x : Str}, x ∈ furL ws (places ws) (letL ws) ↔ Fur ws (plcs ws) (letsOf ws) x := fun {x} => (furL_mem L).trans (Fur.congr fun p => places_mem)
    have fl := furL_len ws (places ws) (letL ws)
    have fl2 : (places ws).length * (letL ws).length ≤ 160 * 500 := Nat.mul_le_mul pl ll1
    have e06 := e05.trans e6
    have hl6 := e6 _ _ hl5
    have hsp6 := e6 _ _ hsp5
    have hlt6 := e6 _ _ hlt
    generalize hfs : furL ws (places ws) (letL ws) = fs at mem1 hf fl
    -- one window
    refine ⟨_, rfl, f, rfl, fo_lst (SqL.of hf) (fun i σ H' => ∃ x5 x6, σ = [some (.ref bk), some (.ref l), some (.ref sp), some (.ref lt), some (.ref f), x5, x6] ∧ Ex H6 H' ∧ ∀ x ∈ fs.take i, ¬ Hang (ws ++ [x])) ⟨_, _, rfl, Ex.refl _, fun x hx => (List.not_mem_nil hx).elim⟩ (fun i σ H' ⟨_, _, _, e, _⟩ => e) ?_ ?_⟩
    · rintro i y σ H7 hi ⟨x5, x6, rfl, e7, no⟩
      obtain ⟨x, hx, rfl⟩ := str_at hi
      have fx := mem1.mp (List.mem_of_getElem? hx)
      have xw := fur_first B fx
      refine ⟨_, rfl, _, rfl, s1, fun p np => ⟨l, p, _, _, rfl, rfl, Ex.new np _ _ (e7 _ _ hl6), upd_same, sz_of (by rw [List.length_map]; show _ + 1 ≤ _; omega), fun p2 np2 => ⟨p2, ws ++ [x], rfl, .inl (SqL.of (by rw [List.map_append]; exact upd_same)), B.ws.app (fun z hz => by rw [List.mem_singleton.mp hz]; exact xw) (by omega) (by show _ + 1 ≤ _; omega), fun b H8 e8 hb8 => ?_⟩⟩⟩
      obtain rfl := dp_bl hb8
      have e78 := (e7.trans (Ex.new np)).trans ((Ex.new np2).trans e8)
      refine ⟨_, rfl, ?_⟩
      by_cases h1 : Hang (ws ++ [x])
      · rw [scB_hang (fun z => by simp at z) h1]
        exact iteT ⟨_, rfl, s1, fun p3 np3 => q _ _ _ ((e06.trans e78).trans (Ex.new np3)) (.one hh fx h1) (dpT (ws := [x]) (SqT.of upd_same))⟩
      · rw [scB_false fun z => h1 z.2]
        refine iteF ⟨_, _, rfl, e78, fun z hz => ?_⟩
        rw [take_snoc hx] at hz
        rcases List.mem_append.mp hz with hz | hz
        · exact no z hz
        · rw [List.mem_singleton.mp hz]
          exact h1
    rintro σ H7 ⟨x5, x6, rfl, e7, no⟩
    rw [List.length_map, take_len] at no
    have nOne : ¬ One ws := fun ⟨x, fx, hx⟩ => no x (mem1.mpr fx) hx
    have e07 := e06.trans e7
    have hf7 := e7 _ _ hf
    have hl7 := e7 _ _ hl6
    have hsp7 := e7 _ _ hsp6
    have hlt7 := e7 _ _ hlt6
    -- two of them
    refine ⟨_, rfl, f, rfl, fo_lst (SqL.of hf7) (fun i σ H' => ∃ x5 x6, σ = [some (.ref bk), some (.ref l), some (.ref sp), some (.ref lt), some (.ref f), x5, x6] ∧ Ex H7 H' ∧ ∀ x ∈ fs.take i, ∀ y, Fur (ws ++ [x]) (plcs ws ++ [endS x]) (letsOf ws) y → ¬ Hang (ws ++ [x, y])) ⟨_, _, rfl, Ex.refl _, fun x hx => (List.not_mem_nil hx).elim⟩ (fun i σ H' ⟨_, _, _, e, _⟩ => e) ?_ ?_⟩
    · rintro i y σ H8 hi ⟨x5, x6, rfl, e8, no2⟩
      obtain ⟨x, hx, rfl⟩ := str_at hi
      have fx := mem1.mp (List.mem_of_getElem? hx)
      have xw := fur_first B fx
      refine ⟨_, rfl, _, rfl, s1, fun p np => ⟨l, p, _, _, rfl, rfl, Ex.new np _ _ (e8 _ _ hl7), upd_same, sz_of (by rw [List.length_map]; show _ + 1 ≤ _; omega), fun p2 np2 => ?_⟩⟩
      have hp2 : (upd (upd H8 p (.lst [.str x])) p2 (.lst (ws.map V.str ++ [.str x]))) p2 = some (.lst ((ws ++ [x]).map V.str)) := by rw [List.map_append]; exact upd_same
      have e9 := e8.trans ((Ex.new (o := .lst [.str x]) np).trans (Ex.new (o := .lst (ws.map V.str ++ [.str x])) np2))
      generalize upd (upd H8 p (.lst [.str x])) p2 (.lst (ws.map V.str ++ [.str x])) = H9 at hp2 e9
      refine ⟨_, rfl, _, rfl, 1, rfl, x, rfl, sz_of (by omega), ?_⟩
      rw [cut_end]
      refine ⟨s1, fun p3 np3 => ⟨sp, p3, _, _, rfl, rfl, Ex.new np3 _ _ (e9 _ _ hsp7), upd_same, sz_of (by rw [List.length_map]; show _ + 1 ≤ _; omega), fun p4 np4 => ?_⟩⟩
      have hp4 : (upd (upd H9 p3 (.lst [.str (endS x)])) p4 (.lst ((places ws).map V.str ++ [.str (endS x)]))) p4 = some (.lst ((places ws ++ [endS x]).map V.str)) := by rw [List.map_append]; exact upd_same
      have e10 := (Ex.new (o := .lst [.str (endS x)]) np3).trans (Ex.new (o := .lst ((places ws).map V.str ++ [.str (endS x)])) np4)
      generalize upd (upd H9 p3 (.lst [.str (endS x)])) p4 (.lst ((places ws).map V.str ++ [.str (endS x)])) = H10 at hp4 e10
      have hp2b := e10 _ _ hp2
      have e710 := e9.trans e10
      have spw : ∀ p ∈ places ws ++ [endS x], Word p ∧ p.length + 1 = n := fun p hp => snd_plc B fx p (by
        rcases List.mem_append.mp hp with h | h
        · exact List.mem_append_left _ (places_mem.mp h)
        · exact List.mem_append_right _ h)
      refine ⟨_, rfl, p2, p4, lt, ws ++ [x], places ws ++ [endS x], letL ws, rfl, SqL.of hp2b, SqL.of hp4, SqL.of (e710 _ _ hlt7), by rw [List.length_append]; show _ + 1 ≤ _; omega, by rw [List.length_append]; show _ + 1 ≤ _; omega, ll1, fun p hp => by have := spw p hp; omega, ll2, fun f2 H11 e11 nf2 hf2 => ?_⟩
      have mem2 : ∀ {y : Str}, y ∈ furL (ws ++ [x]) (places ws ++ [endS x]) (letL ws) ↔ Fur (ws ++ [x]) (plcs ws ++ [endS x]) (letsOf ws) y := fun {y} => (furL_mem L).trans (Fur.congr fun p => by rw [List.mem_append, List.mem_append, places_mem])
      have e711 := e710.trans e11
      generalize furL (ws ++ [x]) (places ws ++ [endS x]) (letL ws) = gs at mem2 hf2
      refine ⟨f2, rfl, fo_lst (SqL.of hf2) (fun j σ H' => ∃ x6, σ = [some (.ref bk), some (.ref l), some (.ref sp), some (.ref lt), some (.ref f), some (.str x), x6] ∧ Ex H11 H' ∧ ∀ y ∈ gs.take j, ¬ Hang (ws ++ [x, y])) ⟨_, rfl, Ex.refl _, fun x hx => (List.not_mem_nil hx).elim⟩ (fun i σ H' ⟨_, _, e, _⟩ => e) ?_ ?_⟩
      · rintro j y1 σ H12 hj ⟨x6, rfl, e12, no3⟩
        obtain ⟨y, hy, rfl⟩ := str_at hj
        have fy := mem2.mp (List.mem_of_getElem? hy)
        have yw := fur_second B fx fy
        refine ⟨_, rfl, _, rfl, _, rfl, s2, fun p np => ⟨l, p, _, _, rfl, rfl, Ex.new np _ _ (e12 _ _ (e711 _ _ hl7)), upd_same, sz_of (by rw [List.length_map]; show _ + 2 ≤ _; omega), fun p2 np2 => ⟨p2, ws ++ [x, y], rfl, .inl (SqL.of (by rw [List.map_append]; exact upd_same)), B.ws.app (n := n) (fun z hz => ?_) (by omega) (by show _ + 2 ≤ _; omega), fun b H13 e13 hb13 => ?_⟩⟩⟩
        · simp only [List.mem_cons, List.mem_nil_iff, or_false] at hz
          rcases hz with rfl | rfl
          · exact xw
          · exact yw
        obtain rfl := dp_bl hb13
        have e1213 := (e12.trans (Ex.new np)).trans ((Ex.new np2).trans e13)
        refine ⟨_, rfl, ?_⟩
        by_cases h1 : Hang (ws ++ [x, y])
        · rw [scB_hang (fun z => by simp at z) h1]
          refine iteT ⟨_, rfl, _, rfl, s2, fun p3 np3 => ⟨p3, [x, y], rfl, SqL.of upd_same, by show 2 ≤ 100000; omega, fun p4 np4 => ⟨p4, _, rfl, .inl ⟨SqL.of upd_same, fun p5 np5 => ?_⟩⟩⟩⟩
          exact q _ _ _ ((e07.trans (e711.trans e1213)).trans ((Ex.new np3).trans ((Ex.new np4).trans (Ex.new np5)))) (.two hh nOne fx fy h1) (dpT (SqT.of upd_same))
        · rw [scB_false fun z => h1 z.2]
          refine iteF ⟨_, rfl, e1213, fun z hz => ?_⟩
          rw [take_snoc hy] at hz
          rcases List.mem_append.mp hz with hz | hz
          · exact no3 z hz
          · rw [List.mem_singleton.mp hz]
            exact h1
      · rintro σ H12 ⟨x6, rfl, e12, no3⟩
        rw [List.length_map, take_len] at no3
        refine ⟨_, _, rfl, e711.trans e12, fun z hz => ?_⟩
        rw [take_snoc hx] at hz
        rcases List.mem_append.mp hz with hz | hz
        · exact no2 z hz
        · rw [List.mem_singleton.mp hz]
          exact fun y fy => no3 y (mem2.mpr fy)
    · rintro σ H8 ⟨x5, x6, rfl, e8, no2⟩
      rw [List.length_map, take_len] at no2
      exact q _ _ _ (e07.trans e8) (.none hh nOne fun ⟨x, y, fx, fy, hxy⟩ => no2 x (mem1.mpr fx) y fy hxy) .non
end

/-! ### the ends of a book, what the law judges by them -/
section
variable {P : Program} {w : World} {K : PySem.W.Frag} {mg : Str → Option Value} {base : Heap}
def IsFl (ws : List Str) (p : Str) (o : HO) : Prop := ∃ ks, o = .dK (trues ks) ∧ ks.Nodup ∧ ∀ q, q ∈ ks ↔ Rch (nxts ws) p q
def sp_law_ends (K : PySem.W.Frag) : Sp := fun vs H Q _ => ∃ (a : Addr) (ws : List Str), vs = [.ref a] ∧ Sq K H a (ws.map V.str) ∧ Ws ws ∧
  ∀ p la H', Ex H H' → SqT K H' p [.ref la, .int (endsL ws : Nat)] → H' la = some (.lst ((lastL ws).map V.str)) → Q (.ref p) H'
theorem ok_law_ends (T : Tx K mg) : Ok P w K mg base CX0 2 "_law_ends" ["windows"] (sp_law_ends K) := by
  refine T.d_law_ends.ok sc_law_ends (fun vs H Q E h => ?_) (fun f cdv A outer s H vs Q E hG hr h => ?_)
  · obtain ⟨a, ws, rfl, _⟩ := h
    rfl
  · obtain ⟨a, ws, rfl, hS, hw, q⟩ := h
    refine ⟨_, (pss_cons (ps_asg (pe_tup (pa_cons (pe_callO (ok_law_ways_out T) hG (hr.mono (by decide)) (pa_cons (pv 0) pa_nil)) (pa_cons pe_dnewK pa_nil))) (pg_tup rfl (pgs_cons (pg_name (i := 1) sc_law_ends.nd rfl (Or.inl rfl)) (pgs_cons (pg_name (i := 2) sc_law_ends.nd rfl (Or.inr rfl)) pgs_nil)))) (pss_cons (ps_lock (ps_for PassesOwn.never rfl (pi_keys (pv 1)) (pg_name (i := 3) sc_law_ends.nd rfl (Or.inl rfl)) (pss_one (ps_dput (hu_of hr) (pv 2) (pv 3) (pe_callO (ok_law_come_to T) hG (hr.mono (by decide)) (pa_cons (pv 1) (pa_cons (pv 3) pa_nil))) rfl)))) (pss_cons (ps_setLc (i := 4) (own := [("spot", 3)]) (g := gName 3) rfl sc_law_ends.nd rfl rfl (sw_true rfl rfl rfl (by decide +kernel)) (pi_listK (K := K) (pe_callB (cr_sortDct (K := K) rfl hr.units) (by rfl) T.b_sorted (by decide +kernel) (pa_cons (pv 1) pa_nil))) (blkOk_by (own := [("spot", 3)]) (N := n_law_ends) (sc := defScope s_law_ends) (by decide +kernel)) (fun _ _ _ _ _ => pg_name (i := 3) sc_law_ends.nd rfl (Or.inr rfl)) (fun _ _ _ _ _ => pts_one (pt_val (pe_callB (cr_allK (K := K) rfl) (by rfl) T.b_all (by decide +kernel) (pa_cons (pe_lock (pe_lc (own := [("other", 6)]) (g := gName 6) (tt := tYes) rfl sc_law_ends.nd (pi_keys (pe_dget (hu_of hr) (pv 2) (pv 3) (fun _ _ => rfl))) (blkOk_in (own := [("other", 6)]) (N := n_law_ends) (by decide +kernel)) (fun _ _ _ _ _ => pg_name (i := 6) sc_law_ends.nd rfl (Or.inl rfl)) (fun _ _ _ _ _ => pts_nil) (fun _ _ _ _ _ => (pe_cmp (pc_din (hu_of hr) (pv 3) (pe_dget (hu_of hr) (pv 2) (pv 6) (fun _ _ => rfl))))))) pa_nil)))) (fun _ _ _ _ _ => (pv 3))) (pss_cons (ps_set (i := 5) sc_law_ends.nd rfl (Or.inl rfl) (pe_callO (ok_law_tally T) hG (hr.mono (by decide)) (pa_cons (pe_lc (own := [("spot", 3)]) (g := gName 3) (tt := tYes) rfl sc_law_ends.nd (pi_listK (K := K) (pv 4)) (blkOk_by (own := [("spot", 3)]) (N := n_law_ends) (sc := defScope s_law_ends) (by decide +kernel)) (fun _ _ _ _ _ => pg_name (i := 3) sc_law_ends.nd rfl (Or.inl rfl)) (fun _ _ _ _ _ => pts_nil) (fun _ _ _ _ _ => (pe_callB (cr_minDS rfl) (by rfl) T.b_min (by decide +kernel) (pa_cons (pe_dget (hu_of hr) (pv 2) (pv 3) (fun _ _ => rfl)) pa_nil)))) pa_nil))) (pss_one (ps_ret (pe_tup (pa_cons (pv 4) (pa_cons (pe_ifExp (PW.pt (pw_or (pt_cmpR op_lt (pe_callB (call_lenK (K := K)) (by rfl) T.b_len PySem.boot_len (pa_cons (pv 4) pa_nil)) (pe_callB call_lenD (by rfl) T.b_len PySem.boot_len (pa_cons (pv 1) pa_nil)) (nomark _)) (pw_or1 (pt_cmpR op_gt (pe_callB call_lenD (by rfl) T.b_len PySem.boot_len (pa_cons (pv 5) pa_nil)) pe_int (nomark _))))) (pe_callB call_lenD (by rfl) T.b_len PySem.boot_len (pa_cons (pv 5) pa_nil)) pe_int) pa_nil))))))))), ?_⟩
    have few := hw.few
    have plen : (ded (plcs ws)).length ≤ 2 * ws.length := by
      have := ded_le (plcs ws)
      rw [plcs_len] at this
      exact this
    have pll : (places ws).length = (ded (plcs ws)).length := sortS_len _
    have s0 : 0 ≤ sizeLine := sz_of (by omega)
    have s1 : 1 ≤ sizeLine := sz_of (by omega)
    have s2 : 2 ≤ sizeLine := sz_of (by omega)
    refine ⟨_, rfl, a, ws, rfl, hS, hw, fun W H1 e1 nW wD C nC => ⟨s2, fun pt npt => ⟨pt, _, rfl, SqT.of upd_same, rfl, _, _, rfl, _, _, rfl, rfl, ?_⟩⟩⟩
    obtain ⟨rw1, hW1, hrow1⟩ := wD
    have e2 := (Ex.new (o := .dK []) nC).trans (Ex.new (o := .tup [.ref W, .ref C]) npt)
    have hW2 := e2 _ _ hW1
    have hrow2 : ∀ k ∈ ded (plcs ws), (upd (upd H1 C (.dK [])) pt (.tup [.ref W, .ref C])) (rw1 k) = some (.lst ((grp begS endS ws k).map V.str)) := fun k hk => e2 _ _ (hrow1 k hk)
    have hC2 : (upd (upd H1 C (.dK [])) pt (.tup [.ref W, .ref C])) C = some (.dK []) := Ex.new npt _ _ upd_same
    have nCH : H C = none := fresh_back e1 nC
    have CW : C ≠ W := (ne_of_none hW1 nC).symm
    have e2b : Ex H (upd (upd H1 C (.dK [])) pt (.tup [.ref W, .ref C])) := e1.trans e2
    generalize upd (upd H1 C (.dK [])) pt (.tup [.ref W, .ref C]) = H2 at hW2 hrow2 hC2 e2b
    refine lk_fo (f := fun k => V.ref (rw1 k)) (ks := ded (plcs ws)) hW2 (fun od R r => ⟨_, rfl, r⟩) (fun od i σ H' => ∃ x3 rs, σ = [some (.ref a), some (.ref W), some (.ref C), x3, none, none, none] ∧ Ex (upd (hide C H2) W (.frz od (.dK (wkv rw1 (ded (plcs ws)))))) H' ∧ H' C = some (.dK (wkv rs ((ded (plcs ws)).take i))) ∧ ∀ z ∈ (ded (plcs ws)).take i, rs z ≠ C ∧ ∃ o, H' (rs z) = some o ∧ IsFl ws z o)
      (fun od => ⟨_, fun _ => 0, rfl, Ex.upd2 hide_ex, by rw [upd_ne CW]; exact hC2, fun z hz => (List.not_mem_nil hz).elim⟩) (fun od i σ H' ⟨_, _, _, e, _⟩ => e _ _ upd_same) ?_ ?_
    · rintro od i z σ H' hz ⟨x3, rs, rfl, e, hC, hR⟩
      have zk : z ∈ ded (plcs ws) := List.mem_of_getElem? hz
      have znew : z ∉ (ded (plcs ws)).take i := fun h => by
        have h2 : ((ded (plcs ws)).take (i + 1)).Nodup := (List.take_sublist _ _).nodup (ded_nd _)
        rw [take_snoc hz] at h2
        exact (List.nodup_append.mp h2).2.2 z h z (List.mem_singleton.mpr rfl) rfl
      have hWr : Wr (upd (hide C H2) W (.frz od (.dK (wkv rw1 (ded (plcs ws)))))) W (ded (plcs ws)) (grp begS endS ws) := by
        refine ⟨rw1, .inr ⟨od, upd_same⟩, fun k hk => ?_⟩
        have h1 := hrow2 k hk
        have n1 : rw1 k ≠ W := fun q => by rw [q, hW2] at h1; cases h1
        have n2 : rw1 k ≠ C := fun q => by rw [q, hC2] at h1; cases h1
        rw [upd_ne n1, hide_ne n2]
        exact h1
      refine ⟨_, rfl, _, rfl, W, ws, z, rfl, hWr.ex e, hw, ded_mem.mp zk, fun d H5 ks e5 nd0 nd mem hd => ?_⟩
      have hC5 := e5 _ _ hC
      have dC : d ≠ C := ne_free hC nd0
      have nCl : (upd (hide C H2) W (.frz od (.dK (wkv rw1 (ded (plcs ws)))))) C = none := by
        rw [upd_ne CW]
        exact hide_at
      refine ⟨_, rfl, _, rfl, C, _, rfl, DPut.k (k := kS z) hC5 (sz_lt (by rw [wkv_len, List.length_take]; omega)), _, fun y => if y = z then d else rs y, rfl, Ex.mut (e.trans e5) nCl, ?_, fun y hy => ?_⟩
      · rw [upd_same, wkv_put, addS, if_neg znew, take_snoc hz]
      · rw [take_snoc hz] at hy
        show (if y = z then d else rs y) ≠ C ∧ ∃ o, (upd H5 C _) (if y = z then d else rs y) = some o ∧ IsFl ws y o
        by_cases hyz : y = z
        · rw [if_pos hyz, upd_ne dC, hyz]
          exact ⟨dC, _, hd, ks, rfl, nd, mem⟩
        · have hy2 : y ∈ (ded (plcs ws)).take i := (List.mem_append.mp hy).elim (fun h => h) fun h => absurd (List.mem_singleton.mp h) hyz
          obtain ⟨n1, o1, h1, h2⟩ := hR y hy2
          rw [if_neg hyz, upd_ne n1]
          exact ⟨n1, o1, e5 _ _ h1, h2⟩
    rintro od σ H' ⟨x3, rs, rfl, e, hC, hR⟩
    rw [List.take_length] at hC hR
    have hWl := e _ _ upd_same
    have hWh : hide C H2 W = some (.dK (wkv rw1 (ded (plcs ws)))) := by
      rw [hide_ne CW.symm]
      exact hW2
    have eh : Ex H (hide C H2) := fun q o hq => by
      rw [hide_ne (ne_of_none hq nCH)]
      exact e2b q o hq
    have e13 : Ex H (upd H' W (.dK (fkv (fun k => V.ref (rw1 k)) (ded (plcs ws))))) := eh.trans (unlock_ex hWh e)
    have hC3 : (upd H' W (.dK (fkv (fun k => V.ref (rw1 k)) (ded (plcs ws))))) C = some (.dK (wkv rs (ded (plcs ws)))) := by
      rw [upd_ne CW]
      exact hC
    have hW3 : (upd H' W (.dK (fkv (fun k => V.ref (rw1 k)) (ded (plcs ws))))) W = some (.dK (fkv (fun k => V.ref (rw1 k)) (ded (plcs ws)))) := upd_same
    have hfl : ∀ z ∈ ded (plcs ws), rs z ≠ C ∧ ∃ o, (upd H' W (.dK (fkv (fun k => V.ref (rw1 k)) (ded (plcs ws))))) (rs z) = some o ∧ IsFl ws z o := fun z hz => by
      obtain ⟨n1, o, h1, ks, rfl, h2⟩ := hR z hz
      refine ⟨n1, _, ?_, ks, rfl, h2⟩
      rw [upd_ne fun q => by rw [q, hWl] at h1; cases h1]
      exact h1
    show tSeq _ _ _ _ _
    clear hR hWl hC e
    generalize upd H' W (.dK (fkv (fun k => V.ref (rw1 k)) (ded (plcs ws)))) = H3 at e13 hC3 hW3 hfl
    have getC : ∀ {H6 : Hp}, H6 C = some (.dK (wkv rs (ded (plcs ws)))) → ∀ y ∈ ded (plcs ws), DGet H6 C (.str y) (some (.ref (rs y))) := fun {H6} h y hy => by
      rw [← wkv_val (rs := rs) hy]
      exact DGet.k (k := kS y) h
    -- the ends
    refine ⟨_, rfl, W, _, ded (plcs ws), rfl, .inl hW3, fkv_keys _ _, by omega, fun sp nsp => ⟨sp, rfl, ⟨_, SqL.of upd_same⟩, fun D nD => ?_⟩⟩
    have e4 := Ex.new (o := .lst ((sortS (ded (plcs ws))).map V.str)) nsp
    have hsp : (upd H3 sp (.lst ((sortS (ded (plcs ws))).map V.str))) sp = some (.lst ((places ws).map V.str)) := upd_same
    generalize upd H3 sp (.lst ((sortS (ded (plcs ws))).map V.str)) = H4 at e4 hsp nD
    have hC4 := e4 _ _ hC3
    refine lcs_lst (SqL.of hsp) (snkB ws) PyData.str nD (by omega) (fun _ _ => rfl) (fun z H5 Y Z hz e5 hy hn => ?_) (fun H5 acc e5 hD ha => ?_)
    · have pz : z ∈ ded (plcs ws) := ded_mem.mpr (places_mem.mp hz)
      obtain ⟨nz, oz, hoz, ksz, rfl, ndz, memZ⟩ := hfl _ pz
      have hoz5 := (e4.trans e5) _ _ hoz
      have hC5 := e5 _ _ hC4
      have kzl : ksz.length ≤ 2 * ws.length := by
        have := nodup_len ndz (l := ded (plcs ws)) fun y hy => ded_mem.mpr (rch_plc (ded_mem.mp pz) ((memZ y).mp hy))
        omega
      have lockC : ∀ od, (upd H5 (rs z) (.frz od (.dK (fkv (fun _ => V.bl true) ksz)))) C = some (.dK (wkv rs (ded (plcs ws)))) := fun od => by
        rw [upd_ne nz.symm]
        exact hC5
      refine ⟨rfl, lk_lc (K := K) (f := fun _ => V.bl true) (ks := ksz) hoz5 (by omega) (fun od R r => ⟨_, rfl, _, rfl, C, _, rfl, getC (lockC od) _ pz, r⟩) (fun _ => true) (fun y => PyData.bool (rchB ws y z)) (fun _ _ => rfl) (fun od y H6 Y2 Z2 hy2 e6 hyes _ => ?_) (fun D2 H6 acc e6 nD2 hD2 ha2 => ?_)⟩
      · have py : y ∈ ded (plcs ws) := ded_mem.mpr (rch_plc (ded_mem.mp pz) ((memZ y).mp hy2))
        obtain ⟨_, oy, hoy, ksy, rfl, ndy, memY⟩ := hfl _ py
        have rdy : Rd H6 (rs y) (.dK (trues ksy)) := by
          by_cases hyb : rs y = rs z
          · rw [hyb] at hoy ⊢
            rw [hoz] at hoy
            have : trues ksz = trues ksy := HO.dK.inj (Option.some.inj hoy)
            rw [← this]
            exact .inr ⟨od, e6 _ _ upd_same⟩
          · refine .inl (e6 _ _ ?_)
            rw [upd_ne hyb]
            exact (e4.trans e5) _ _ hoy
        refine ⟨rfl, lc_yes ⟨_, rfl, _, rfl, _, rfl, C, _, rfl, getC (e6 _ _ (lockC od)) _ py, _, _, rfl, rd_get (k := kS z) rdy, hyes rfl _ _ (Ex.refl _) ?_⟩⟩
        rw [trues_in, show decide (z ∈ ksy) = rchB ws y z by
          rw [Bool.eq_iff_iff, decide_eq_true_iff, memY, rchB_iff]]
        exact .bl _
      · rw [filter_true] at ha2
        have ha2 := bls_all ha2
        subst ha2
        refine ⟨_, _, rfl, SqL.of hD2, _, rfl, ?_⟩
        have et : ((ksz.map fun y => rchB ws y z).all id) = snkB ws z := by
          rw [Bool.eq_iff_iff, List.all_map, List.all_eq_true, snkB_iff]
          exact ⟨fun h q hq => rchB_iff.mp (h q ((memZ q).mpr hq)), fun h q hq => rchB_iff.mpr (h q ((memZ q).mp hq))⟩
        rw [et]
        cases hs : snkB ws z with
        | true => exact iteT ⟨_, rfl, hy hs _ _ e6 (.str z)⟩
        | false => exact iteF (hn hs _ e6)
    have ha := strs_dpa ha
    subst ha
    have hlast : (places ws).filter (snkB ws) = lastL ws := rfl
    rw [hlast] at hD
    have ll : (lastL ws).length ≤ (places ws).length := List.length_filter_le ..
    have e35 := e4.trans e5
    have hC5 := e35 _ _ hC3
    -- how many
    refine ⟨_, rfl, D, rfl, ⟨_, SqL.of hD⟩, fun D3 nD3 => ?_⟩
    refine lcs_lst (SqL.of hD) (fun _ => true) (fun z => PyData.str (keyOf ws z)) nD3 (by omega) (fun _ _ => rfl) (fun z H6 Y Z hz e6 hy hn => ?_) (fun H6 acc e6 hD3 ha => ?_)
    · obtain ⟨pz, sz⟩ := lastL_mem.mp hz
      obtain ⟨nz, oz, hoz, ksz, rfl, ndz, memZ⟩ := hfl _ (ded_mem.mpr pz)
      refine ⟨rfl, lc_yes ⟨_, rfl, _, rfl, C, _, rfl, getC (e6 _ _ hC5) _ (ded_mem.mpr pz), rs z, _, ksz, rfl, (e35.trans e6) _ _ hoz, trues_keys _, fun h => ?_, fun m hm least => hy rfl _ _ (Ex.refl _) ?_⟩⟩
      · have := (memZ z).mpr .refl
        rw [h] at this
        exact List.not_mem_nil this
      · rw [key_is pz (fun q => (memZ q).trans ⟨fun h => ⟨h, sz q h⟩, fun h => h.1⟩) hm least]
        exact .str _
    rw [filter_true] at ha
    have ha : acc = ((lastL ws).map (keyOf ws)).map V.str := strs_dpa (by rw [List.map_map]; exact ha)
    subst ha
    refine .inl ⟨D3, _, rfl, SqL.of hD3, by rw [List.length_map]; omega, fun d H7 e7 nd hd => ?_⟩
    have e37 := (e35.trans e6).trans e7
    have hD7 := (e6.trans e7) _ _ hD
    have hW7 := e37 _ _ hW3
    have kl : (tkv ((lastL ws).map (keyOf ws))).length = (keysL ws).length := fkv_len _ _
    have fin : ∀ (e : Nat), e = endsL ws → 2 ≤ sizeLine ∧ ∀ p, H7 p = none → Q (.ref p) (upd H7 p (.tup [.ref D, .int (e : Int)])) := fun e he => by
      subst he
      exact ⟨s2, fun p np => q p D _ ((e13.trans e37).trans (Ex.new np)) (SqT.of upd_same) (Ex.new np _ _ hD7)⟩
    refine ⟨_, rfl, _, rfl, D, _, rfl, .inl (SqL.of hD7), _, rfl, W, _, rfl, hW7, _, _, rfl, rfl, _, rfl, ?_⟩
    rw [fkv_len, List.length_map]
    by_cases h1 : (lastL ws).length < (places ws).length
    · rw [decide_eq_true (show ((lastL ws).length : Int) < ((ded (plcs ws)).length : Int) by omega)]
      refine iteT ⟨_, rfl, d, _, rfl, hd, ?_⟩
      rw [kl]
      exact fin _ (by unfold endsL; rw [if_pos (.inl h1)])
    rw [decide_eq_false (show ¬ ((lastL ws).length : Int) < ((ded (plcs ws)).length : Int) by omega)]
    refine iteF ⟨_, rfl, d, _, rfl, hd, _, _, rfl, rfl, _, rfl, ?_⟩
    rw [kl]
    by_cases h2 : 1 < (keysL ws).length
    · rw [decide_eq_true (show (1 : Int) < ((keysL ws).length : Int) by omega)]
      refine iteT ⟨_, rfl, d, _, rfl, hd, ?_⟩
      rw [kl]
      exact fin _ (by unfold endsL; rw [if_pos (.inr h2)])
    rw [decide_eq_false (show ¬ (1 : Int) < ((keysL ws).length : Int) by omega)]
    exact iteF (fin 0 (by unfold endsL; rw [if_neg fun h => h.elim h1 h2]))
end

/-! ### few of them -/
section
variable {P : Program} {w : World} {K : PySem.W.Frag} {mg : Str → Option Value} {base : Heap}
def sp_law_few_right (K : PySem.W.Frag) : Sp := fun vs H Q _ => ∃ (v : V) (n e : Nat) (ws : List Str) (told : Str), vs = [v, .int e, .str told] ∧ Dp K H v (bookD n ws) ∧ Bk n ws ∧ ¬ Hang ws ∧ e = max (endsL ws) (endsL (revs ws)) ∧ told = (fewD ws).shown ∧ RetD K (.bool true) H Q
theorem shown_one {ws : List Str} (h : fewN ws = some 1) : (fewD ws).shown = "1" := by
  rw [fewD_some h]
  decide +kernel
theorem shown_two {ws : List Str} (h : fewN ws = some 2) : (fewD ws).shown = "2" := by
  rw [fewD_some h]
  decide +kernel
theorem shown_none {ws : List Str} (h : fewN ws = none) : (fewD ws).shown = "None" := by
  rw [fewD_none h]
  decide +kernel
theorem few_one2 {ws : List Str} (nh : ¬ Hang ws) (h : One ws) : fewN ws = some 1 := by
  unfold fewN
  rw [if_neg nh, if_pos h]
theorem few_else {ws : List Str} (nh : ¬ Hang ws) (h : ¬ One ws) : fewN ws = some 2 ∨ fewN ws = none := by
  unfold fewN
  rw [if_neg nh, if_neg h]
  by_cases h2 : Two2 ws
  · rw [if_pos h2]
    exact .inl rfl
  · rw [if_neg h2]
    exact .inr rfl
theorem ok_law_few_right (T : Tx K mg) : Ok P w K mg base CX0 4 "_law_few_right" ["book", "ends", "told"] (sp_law_few_right K) := by
  refine T.d_law_few_right.ok sc_law_few_right (fun vs H Q E h => ?_) (fun f cdv A outer s H vs Q E hG hr h => ?_)
  · obtain ⟨v, n, e, ws, told, rfl, _⟩ := h
    rfl
  · obtain ⟨v, n, e, ws, told, rfl, hBk, B, nh, he, ht2, q⟩ := h
    refine ⟨_, (pss_cons (ps_set (i := 3) sc_law_few_right.nd rfl (Or.inr rfl) (pe_callTy (call_listK (K := K)) (by rfl) T.b_list (by decide +kernel) (pa_cons (pe_ix (ix_tupK (K := K)) (pv 0) pe_int (fun _ _ => rfl)) pa_nil))) (pss_cons (ps_par (i := 4) (j := 5) rfl sc_law_few_right.nd rfl rfl (by decide) rfl rfl (pa_cons (pe_callB (cr_sortDct (K := K) rfl hr.units) (by rfl) T.b_sorted (by decide +kernel) (pa_cons (pe_callO (ok_law_ways_out T) hG (hr.mono (by decide)) (pa_cons (pv 3) pa_nil)) pa_nil)) (pa_cons (pe_callB (cr_sortDct (K := K) rfl hr.units) (by rfl) T.b_sorted (by decide +kernel) (pa_cons (pe_callO (ok_law_tally T) hG (hr.mono (by decide)) (pa_cons (pe_joinK (K := K) pe_str (pv 3)) pa_nil)) pa_nil)) pa_nil)) (by rfl)) (pss_cons (ps_if (pt_cmpR op_eq (pv 1) pe_int (nomark _)) (pss_cons (ps_set (i := 6) sc_law_few_right.nd rfl (Or.inl rfl) (pe_callO (ok_law_further T) hG (hr.mono (by decide)) (pa_cons (pv 3) (pa_cons (pe_ix (ix_tupK (K := K)) (pe_callO (ok_law_ends T) hG (hr.mono (by decide)) (pa_cons (pv 3) pa_nil)) pe_int (fun _ _ => rfl)) (pa_cons (pv 5) pa_nil))))) (pss_one (ps_if (pt_val (pe_callB (cr_anyK (K := K) rfl) (by rfl) T.b_any (by decide +kernel) (pa_cons (pe_lc (own := [("one", 7)]) (g := gName 7) (tt := tYes) rfl sc_law_few_right.nd (pi_listK (K := K) (pv 6)) (blkOk_by (own := [("one", 7)]) (N := n_law_few_right) (sc := defScope s_law_few_right) (by decide +kernel)) (fun _ _ _ _ _ => pg_name (i := 7) sc_law_few_right.nd rfl (Or.inl rfl)) (fun _ _ _ _ _ => pts_nil) (fun _ _ _ _ _ => (pe_callO (ok_law_hangs T) hG (hr.mono (by decide)) (pa_cons (pe_op op_cat (pv 3) (pe_lst (pa_cons (pv 7) pa_nil))) pa_nil)))) pa_nil))) (pss_one (ps_ret (pe_cmpR op_eq (pv 2) pe_str (nomark _)))) pss_nil))) pss_nil) (pss_cons (ps_if (pt_cmpR op_gt (pe_op op_mul (pe_callB (call_lenK (K := K)) (by rfl) T.b_len PySem.boot_len (pa_cons (pv 4) pa_nil)) (pe_callB (call_lenK (K := K)) (by rfl) T.b_len PySem.boot_len (pa_cons (pv 5) pa_nil))) pe_int (nomark _)) (pss_one (ps_ret (pe_cmpR (op_inK (K := K)) (pv 2) (pe_lst (pa_cons pe_str (pa_cons pe_str pa_nil))) (by rfl)))) pss_nil) (pss_one (ps_ret (pe_cmpR op_eq (pv 2) (pe_ifExp (pt_cmpR op_isN (pe_callO (ok_law_joins T) hG (hr.mono (by decide)) (pa_cons (pv 0) pa_nil)) pe_non (nomark _)) pe_str pe_str) (nomark _)))))))), ?_⟩
    have s0 : 0 ≤ sizeLine := sz_of (by omega)
    have s1 : 1 ≤ sizeLine := sz_of (by omega)
    have s2 : 2 ≤ sizeLine := sz_of (by omega)
    have few := B.few
    have hi6 := B.hi
    have lo2 := B.lo
    obtain ⟨bk, t, rfl, hb, ht⟩ := dp_book hBk
    refine ⟨_, rfl, _, _, _, _, rfl, rfl, hb, atI_of (j := 1) rfl rfl, t, _, rfl, .inr ht, fun l nl => ?_⟩
    have e0 : Ex H (upd H l (.lst (ws.map V.str))) := Ex.new nl
    have hl1 : (upd H l (.lst (ws.map V.str))) l = some (.lst (ws.map V.str)) := upd_same
    generalize upd H l (.lst (ws.map V.str)) = H1 at e0 hl1
    have sl := sum_len_le (m := 6) fun x hx => by
      have := (B.win.1 x hx).2
      show x.length ≤ 6
      omega
    have pl : (places ws).length ≤ 160 := by
      have := places_len ws
      omega
    refine ⟨_, rfl, l, ws, rfl, .inl (SqL.of hl1), B.ws, fun d H2 e2 nd wD => ?_⟩
    obtain ⟨rs, hd, _⟩ := wD
    have dl := ded_le (plcs ws)
    rw [plcs_len] at dl
    refine ⟨d, _, ded (plcs ws), rfl, .inl hd, wkv_keys _ _, by omega, fun sp nsp => ?_⟩
    have e3 := e2.trans (Ex.new (o := .lst ((sortS (ded (plcs ws))).map V.str)) nsp)
    have hsp : (upd H2 sp (.lst ((sortS (ded (plcs ws))).map V.str))) sp = some (.lst ((places ws).map V.str)) := upd_same
    generalize upd H2 sp (.lst ((sortS (ded (plcs ws))).map V.str)) = H3 at e3 hsp
    have hl3 := e3 _ _ hl1
    refine ⟨⟨_, rfl⟩, _, rfl, "", l, ws, rfl, rfl, .inl (SqL.of hl3), ?_, ?_⟩
    · have : ("" : Str).length = 0 := by decide +kernel
      rw [this]
      omega
    have lz : (sg (Txt.join ("" : Str) ws)).length ≤ 480 := by
      rw [join_letters, letsOf_len]
      omega
    refine .inr ⟨Txt.join "" ws, _, rfl, rfl, by rw [List.length_map]; omega, fun d2 H4 e4 nd2 hd2 => ⟨d2, _, ded ((sg (Txt.join "" ws)).map one1), rfl, .inl hd2, fkv_keys _ _, ?_, fun lt nlt => ?_⟩⟩
    · have := ded_le ((sg (Txt.join "" ws)).map one1)
      rw [List.length_map] at this
      omega
    rw [join_letters]
    have e5 := e4.trans (Ex.new (o := .lst ((sortS (ded ((letsOf ws).map one1))).map V.str)) nlt)
    have hlt : (upd H4 lt (.lst ((sortS (ded ((letsOf ws).map one1))).map V.str))) lt = some (.lst ((letL ws).map V.str)) := upd_same
    generalize upd H4 lt (.lst ((sortS (ded ((letsOf ws).map one1))).map V.str)) = H5 at e5 hlt
    obtain ⟨ll1, ll2⟩ := letL_len B
    have e05 := e0.trans (e3.trans e5)
    have hl5 := e5 _ _ hl3
    have hsp5 := e5 _ _ hsp
    have pw : ∀ p ∈ places ws, Word p ∧ p.length + 1 = n := fun p hp => plc_word B (places_mem.mp hp)
    have L := letL_of ws
    refine ⟨_, _, rfl, ?_⟩
    dsimp only
    refine ts_splitR (t := tIfS _ _ _) (fun σ H' => ∃ x6 x7, σ = [some (.ref bk), some (.int (e : Int)), some (.str told), some (.ref l), some (.ref sp), some (.ref lt), x6, x7] ∧ Ex H5 H' ∧ ¬ One ws) (fun D' rtD hD' => ?_) ?_
    · refine ⟨_, rfl, rfl, _, rfl, ?_⟩
      by_cases h1 : e = 1
      · rw [decide_eq_true (show V.int (e : Int) = V.int 1 by rw [h1]; rfl)]
        refine iteT ⟨_, rfl, _, rfl, l, ws, rfl, .inl (SqL.of hl5), B.ws, fun p la H6 e6 hp hla => ⟨_, _, _, _, rfl, rfl, hp, atI_of (j := 0) rfl rfl, _, rfl, l, la, lt, ws, lastL ws, letL ws, rfl, SqL.of (e6 _ _ hl5), SqL.of hla, SqL.of (e6 _ _ hlt), by omega, ?_, ll1, fun p hp => ?_, ll2, fun f H7 e7 nf hf => ?_⟩⟩
        · have := List.length_filter_le (snkB ws) (places ws)
          show (lastL ws).length ≤ 1000
          unfold lastL
          omega
        · have := plc_word B (lastL_mem.mp hp).1
          omega
        have mem1 : ∀ {x : Str}, x ∈ furL ws (lastL ws) (letL ws) ↔ Fur ws (lastL ws) (letsOf ws) x := fun {x} => furL_mem L
        have fl := furL_len ws (lastL ws) (letL ws)
        have fl1 : (lastL ws).length ≤ 160 := by
          have := List.length_filter_le (snkB ws) (places ws)
          unfold lastL
          omega
        have fl2 : (lastL ws).length * (letL ws).length ≤ 160 * 500 := Nat.mul_le_mul fl1 ll1
        have e57 := e6.trans e7
        have hl7 := e57 _ _ hl5
        generalize hfs : furL ws (lastL ws) (letL ws) = fs at mem1 hf fl
        have fw : ∀ x ∈ fs, Word x ∧ x.length = n := fun x hx => fur_word B (fun p hp => plc_word B (lastL_mem.mp hp).1) (mem1.mp hx)
        refine ⟨_, rfl, f, rfl, ⟨_, SqL.of hf⟩, fun D nD => ?_⟩
        refine lcs_lst (SqL.of hf) (fun _ => true) (fun x => PyData.bool (scB (ws ++ [x]))) nD (by omega) (fun _ _ => rfl) (fun x H8 Y Z hx e8 hy _ => ?_) (fun H8 acc e8 hD ha => ?_)
        · refine ⟨rfl, lc_yes ⟨_, rfl, _, rfl, s1, fun p np => ⟨l, p, _, _, rfl, rfl, Ex.new np _ _ (e8 _ _ hl7), upd_same, sz_of (by rw [List.length_map]; show _ + 1 ≤ _; omega), fun p2 np2 => ⟨p2, ws ++ [x], rfl, .inl (SqL.of (by rw [List.map_append]; exact upd_same)), B.ws.app (fun z hz => by rw [List.mem_singleton.mp hz]; exact fw x hx) (by omega) (by show _ + 1 ≤ _; omega), fun b H9 e9 hb9 => hy rfl _ _ (((Ex.new np).trans (Ex.new np2)).trans e9) hb9⟩⟩⟩⟩
        · rw [filter_true] at ha
          have ha := bls_all ha
          subst ha
          refine ⟨_, _, rfl, SqL.of hD, _, rfl, ?_⟩
          have et : ((fs.map fun x => scB (ws ++ [x])).any id) = true ↔ One ws := by
            rw [List.any_map, List.any_eq_true]
            constructor
            · rintro ⟨x, hx, h⟩
              exact last_one (mem1.mp hx) (scB_iff.mp h).2
            · intro h
              obtain ⟨_, x, fx, hh⟩ := one_last B.wl nh h
              exact ⟨x, mem1.mpr fx, scB_iff.mpr ⟨fun z => by simp at z, hh⟩⟩
          by_cases hO : One ws
          · rw [et.mpr hO]
            refine iteT ⟨_, rfl, rfl, ?_⟩
            rw [rtD, decide_eq_true (show V.str told = V.str "1" by rw [ht2, shown_one (few_one2 nh hO)])]
            exact q _ _ (e05.trans (e57.trans e8)) (.bl true)
          · rw [Bool.eq_false_iff.mpr fun h => hO (et.mp h)]
            exact iteF (hD' _ _ ⟨_, _, rfl, e57.trans e8, hO⟩)
      · rw [decide_eq_false fun z => h1 (by have := V.int.inj z; omega)]
        refine iteF (hD' _ _ ⟨_, _, rfl, Ex.refl _, fun hO => h1 ?_⟩)
        have := (one_last B.wl nh hO).1
        omega
    rintro σ H6 ⟨x6, x7, rfl, e6, nO⟩
    have e06 := e05.trans e6
    refine ⟨_, rfl, sp, _, rfl, .inl (SqL.of (e6 _ _ hsp5)), _, rfl, lt, _, rfl, .inl (SqL.of (e6 _ _ hlt)), ?_⟩
    rw [List.length_map, List.length_map]
    refine ⟨_, _, rfl, rfl, ?_, _, _, rfl, rfl, _, rfl, ?_⟩
    · exact .inl ⟨by omega, by omega⟩
    by_cases h36 : (36 : Int) < ((places ws).length : Int) * ((letL ws).length : Int)
    · rw [decide_eq_true h36]
      refine iteT ⟨_, rfl, s2, fun p np => ⟨p, _, rfl, .inl (SqL.of upd_same), rfl, flat_strs ["2", "None"], ?_⟩⟩
      show Q (.bl (inV (V.str told) ((["2", "None"] : List Str).map V.str))) _
      rw [inV_strs, decide_eq_true (show told ∈ (["2", "None"] : List Str) by
        rw [ht2]
        rcases few_else nh nO with h | h
        · rw [shown_two h]
          exact List.mem_cons_self ..
        · rw [shown_none h]
          exact List.mem_cons_of_mem _ (List.mem_cons_self ..))]
      exact q _ _ (e06.trans (Ex.new np)) (.bl true)
    · rw [decide_eq_false h36]
      refine iteF ⟨_, rfl, _, rfl, .ref bk, n, ws, rfl, bookDp (ex_t e06 hb) (ex_t e06 ht), B, fun u H7 o e7 J hu => ?_⟩
      have jf := J.few
      cases o with
      | none =>
        obtain rfl := dp_non hu
        refine ⟨rfl, _, rfl, ?_⟩
        rw [decide_eq_true (rfl : V.non = V.non)]
        refine iteT ⟨rfl, ?_⟩
        rw [decide_eq_true (show V.str told = V.str "None" by rw [ht2, shown_none jf])]
        exact q _ _ (e06.trans e7) (.bl true)
      | some lo =>
        obtain ⟨ul, rfl, _⟩ := dp_strsT hu
        refine ⟨rfl, _, rfl, ?_⟩
        rw [decide_eq_false (show ¬ V.ref ul = V.non from fun z => nomatch z)]
        refine iteF ⟨rfl, ?_⟩
        rw [decide_eq_true (show V.str told = V.str "2" by
          rw [ht2, shown_two]
          rcases few_else nh nO with h | h
          · exact h
          · rw [jf] at h
            cases h)]
        exact q _ _ (e06.trans e7) (.bl true)
end

/-! ### further windows join, and go again -/
theorem shwBook {n : Nat} {ws : List Str} (hn : n ≤ 100) (h : Ws ws) : Shw (bookD n ws) := by
  have h1 := wideStrs (ws := ws) (m := 100) fun x hx => (h.wd x hx).2
  have h2 := h.few
  have h3 : ws.length * (10 * 100 + 4) ≤ 1000 * 1004 := Nat.mul_le_mul h2 (Nat.le_refl _)
  have h4 : (2000000 : Nat) < sizeLine := by decide
  refine shw_of ?_ ?_ ?_
  · show (decide ((n : Int).natAbs < 2 ^ 200) && (tames (ws.map PyData.str) && true)) = true
    rw [tameStrs fun x hx => (h.wd x hx).1, decide_eq_true (by omega)]
    rfl
  · show max 0 (max (PyData.depthAll (ws.map PyData.str) + 1) 0) + 1 ≤ 60
    rw [depthStrs]
    omega
  · show (300 + 2 + (wides (ws.map PyData.str) + 4 + 2 + 0)) + 4 ≤ sizeLine
    omega
theorem shwBooks {n : Nat} : ∀ {l : List (List Str)}, n ≤ 6 → (∀ ws ∈ l, ws.length ≤ 80 ∧ ∀ x ∈ ws, Word x ∧ x.length ≤ 6) → l.length ≤ 10 → Shw (.list (l.map (bookD n))) := by
  intro l hn h hl
  have tm : ∀ {l : List (List Str)}, (∀ ws ∈ l, ∀ x ∈ ws, Word x) → tames (l.map (bookD n)) = true := by
    intro l h
    induction l with
    | nil => rfl
    | cons ws l ih =>
      show ((decide ((n : Int).natAbs < 2 ^ 200) && (tames (ws.map PyData.str) && true)) && tames (l.map (bookD n))) = true
      rw [ih fun m hm => h m (List.mem_cons_of_mem _ hm), tameStrs (h ws (List.mem_cons_self ..)), decide_eq_true (by omega)]
      rfl
  have dp : ∀ (l : List (List Str)), PyData.depthAll (l.map (bookD n)) ≤ 2 := by
    intro l
    induction l with
    | nil => exact Nat.zero_le _
    | cons ws l ih =>
      show max (max 0 (max (PyData.depthAll (ws.map PyData.str) + 1) 0) + 1) (PyData.depthAll (l.map (bookD n))) ≤ 2
      rw [depthStrs]
      omega
  have wd : ∀ {l : List (List Str)}, (∀ ws ∈ l, ws.length ≤ 80 ∧ ∀ x ∈ ws, Word x ∧ x.length ≤ 6) → wides (l.map (bookD n)) ≤ l.length * 6000 := by
    intro l h
    induction l with
    | nil => exact Nat.zero_le _
    | cons ws l ih =>
      have a := wideStrs (m := 6) fun x hx => ((h ws (List.mem_cons_self ..)).2 x hx).2
      have b := ih fun m hm => h m (List.mem_cons_of_mem _ hm)
      have c : ws.length * (10 * 6 + 4) ≤ 80 * 64 := Nat.mul_le_mul (h ws (List.mem_cons_self ..)).1 (Nat.le_refl _)
      show ((300 + 2 + (wides (ws.map PyData.str) + 4 + 2 + 0)) + 4) + 2 + wides (l.map (bookD n)) ≤ (l.length + 1) * 6000
      omega
  refine shw_of (tm fun ws hw x hx => ((h ws hw).2 x hx).1) ?_ ?_
  · show PyData.depthAll (l.map (bookD n)) + 1 ≤ 60
    have := dp l
    omega
  · show wides (l.map (bookD n)) + 4 ≤ sizeLine
    have := wd h
    have big : 1000000 ≤ sizeLine := by decide
    omega
theorem Bk.small {n : Nat} {ws : List Str} (B : Bk n ws) : ws.length ≤ 80 ∧ ∀ x ∈ ws, Word x ∧ x.length ≤ 6 := ⟨B.few, fun x hx => ⟨(B.win.1 x hx).1, by have := (B.win.1 x hx).2; have := B.hi; omega⟩⟩
theorem topBook (n : Nat) (ws : List Str) : topList (bookD n ws) = true := by
  show (true && (noLists (ws.map PyData.str) && true)) = true
  rw [noStrs]
  rfl
theorem cutV_take (xs : List V) (i : Int) : ∃ k, cutV xs none (some i) = xs.take k := by
  unfold cutV
  have e1 : HT.sIx xs.length 0 none = 0 := rfl
  exact ⟨_, by rw [e1, List.drop_zero, Nat.sub_zero]⟩
theorem cutV_from (xs : List V) (k : Nat) : cutV xs (some (k : Int)) none = xs.drop k := by
  unfold cutV
  have e1 : HT.sIx xs.length 0 (some (k : Int)) = min k xs.length := HT.sIx_nat _ _ _
  have e2 : HT.sIx xs.length xs.length none = xs.length := rfl
  rw [e1, e2]
  by_cases h : k ≤ xs.length
  · rw [Nat.min_eq_left h, List.take_of_length_le (by rw [List.length_drop]; omega)]
  · rw [Nat.min_eq_right (by omega), List.drop_of_length_le (Nat.le_refl _), List.drop_of_length_le (by omega), List.take_nil]
theorem win_take {n : Nat} {ms : List Str} (h : Win n ms) (k : Nat) : Win n (ms.take k) := win_sub h (List.take_sublist ..)
theorem win_drop {n : Nat} {ms : List Str} (h : Win n ms) (k : Nat) : Win n (ms.drop k) := win_sub h (List.drop_sublist ..)
theorem join_two {ws ms : List Str} (hw : Asc ws) (hm : Asc ms) (no : ∀ x ∈ ms, x ∉ ws) (k : Nat) : sortS (sortS (ws ++ ms.drop k) ++ ms.take k) = sortS (ws ++ ms) ∧ sortS (sortS (ws ++ ms.take k) ++ ms.drop k) = sortS (ws ++ ms) := by
  have tk : ms.take k ++ ms.drop k = ms := List.take_append_drop k ms
  have nd : (ms.take k ++ ms.drop k).Nodup := by rw [tk]; exact hm.nodup
  obtain ⟨nd1, nd2, nd3⟩ := List.nodup_append.mp nd
  have mm : ∀ z, z ∈ ms ↔ z ∈ ms.take k ∨ z ∈ ms.drop k := fun z => by
    conv => lhs; rw [← tk]
    exact List.mem_append
  have asc : Asc (sortS (ws ++ ms)) := sortS_asc (List.nodup_append.mpr ⟨hw.nodup, hm.nodup, fun a ha b hb e => no b hb (e ▸ ha)⟩)
  have part : ∀ (a b : List Str), (∀ z ∈ a, z ∈ ms) → (∀ z ∈ b, z ∈ ms) → a.Nodup → b.Nodup → (∀ z, z ∈ a → z ∈ b → False) → (sortS (ws ++ a) ++ b).Nodup := fun a b ha hb na nb dis => by
    refine List.nodup_append.mpr ⟨(sortS_asc (List.nodup_append.mpr ⟨hw.nodup, na, fun x hx y hy e => no y (ha y hy) (e ▸ hx)⟩)).nodup, nb, fun x hx y hy e => ?_⟩
    subst e
    rcases List.mem_append.mp (sortS_mem.mp hx) with h | h
    · exact no x (hb x hy) h
    · exact dis x h hy
  have tin : ∀ z ∈ ms.take k, z ∈ ms := fun z hz => List.mem_of_mem_take hz
  have din : ∀ z ∈ ms.drop k, z ∈ ms := fun z hz => List.mem_of_mem_drop hz
  constructor
  · refine asc_ext (sortS_asc (part _ _ din tin nd2 nd1 fun z h1 h2 => nd3 z h2 z h1 rfl)) asc fun z => ?_
    rw [sortS_mem, List.mem_append, sortS_mem, List.mem_append, sortS_mem, List.mem_append, mm]
    exact ⟨fun h => h.elim (fun h => h.elim .inl fun h => .inr (.inr h)) fun h => .inr (.inl h), fun h => h.elim (fun h => .inl (.inl h)) fun h => h.elim .inr fun h => .inl (.inr h)⟩
  · refine asc_ext (sortS_asc (part _ _ tin din nd1 nd2 fun z h1 h2 => nd3 z h1 z h2 rfl)) asc fun z => ?_
    rw [sortS_mem, List.mem_append, sortS_mem, List.mem_append, sortS_mem, List.mem_append, mm]
    exact ⟨fun h => h.elim (fun h => h.elim .inl fun h => .inr (.inl h)) fun h => .inr (.inr h), fun h => h.elim (fun h => .inl (.inl h)) fun h => h.elim (fun h => .inl (.inr h)) .inr⟩
theorem go_again {ws ms : List Str} (no : ∀ x ∈ ms, x ∉ ws) (ne : ws ≠ []) : scB (minus (sortS (ws ++ ms)) ms) = scB ws := by
  have mem : ∀ x, x ∈ minus (sortS (ws ++ ms)) ms ↔ x ∈ ws := fun x => by
    rw [minus_mem, sortS_mem, List.mem_append]
    exact ⟨fun ⟨h1, h2⟩ => h1.resolve_right h2, fun h => ⟨.inl h, fun h2 => no x h2 h⟩⟩
  have ne2 : minus (sortS (ws ++ ms)) ms ≠ [] := fun h => by
    obtain ⟨x, hx⟩ := List.exists_mem_of_ne_nil _ ne
    have := (mem x).mpr hx
    rw [h] at this
    exact List.not_mem_nil this
  rw [Bool.eq_iff_iff, scB_iff, scB_iff]
  exact ⟨fun h => ⟨ne, (Hang.congr mem).mp h.2⟩, fun h => ⟨ne2, (Hang.congr mem).mpr h.2⟩⟩
theorem join_word {l : List Str} {n : Nat} (h : ∀ x ∈ l, Word x ∧ x.length = 1) (hn : l.length = n) : Word (Txt.join ("" : Str) l) ∧ (Txt.join ("" : Str) l).length = n := by
  refine ⟨fun c hc => ?_, ?_⟩
  · rw [join_letters] at hc
    obtain ⟨x, hx, hc⟩ := letsOf_mem.mp hc
    exact (h x hx).1 c hc
  · rw [len_sg, join_letters, letsOf_len]
    have : ∀ {l : List Str}, (∀ x ∈ l, Word x ∧ x.length = 1) → (l.map (·.length)).sum = l.length := by
      intro l h
      induction l with
      | nil => rfl
      | cons x l ih =>
        rw [List.map_cons, List.sum_cons, List.length_cons, ih fun y hy => h y (List.mem_cons_of_mem _ hy)]
        have := (h x (List.mem_cons_self ..)).2
        show x.length + _ = _
        omega
    rw [this h, hn]
section
variable {P : Program} {w : World} {K : PySem.W.Frag} {mg : Str → Option Value} {base : Heap}
def sp_law_joined_right (K : PySem.W.Frag) : Sp := fun vs H Q _ => ∃ (w : Addr) (v : V) (n c : Nat) (ws : List Str) (G : Hp), vs = [.ref w, v] ∧ c ≤ 100000 ∧ Wt w c G H ∧ Dp K G v (bookD n ws) ∧ Bk n ws ∧ ws.length ≤ 74 ∧ ∀ G' H', Ex G G' → Wt w (c + 100) G' H' → Q (.bl true) H'
theorem ok_law_joined_right (T : Tx K mg) : Ok P w K mg base CX0 7 "_law_joined_right" ["well", "book"] (sp_law_joined_right K) := by
  refine T.d_law_joined_right.ok sc_law_joined_right (fun vs H Q E h => ?_) (fun f cdv A outer s H vs Q E hG hr h => ?_)
  · obtain ⟨w, v, n, c, ws, G, rfl, _⟩ := h
    rfl
  · obtain ⟨w, v, n, c, ws, G, rfl, hc, W, hBG, B, l74, q⟩ := h
    refine ⟨_, (pss_cons (ps_par (i := 2) (j := 3) rfl sc_law_joined_right.nd rfl rfl (by decide) rfl rfl (pa_cons (pe_ix (ix_tupK (K := K)) (pv 1) pe_int (fun _ _ => rfl)) (pa_cons (pe_lst pa_nil) pa_nil)) (by rfl)) (pss_cons (ps_set (i := 4) sc_law_joined_right.nd rfl (Or.inr rfl) (pe_callO (ok_law_one_of T) hG (hr.mono (by decide)) (pa_cons (pv 0) (pa_cons (pe_lst (pa_cons (pe_callB (cr_sortDct (K := K) rfl hr.units) (by rfl) T.b_sorted (by decide +kernel) (pa_cons (pe_callO (ok_law_tally T) hG (hr.mono (by decide)) (pa_cons (pe_joinK (K := K) pe_str (pe_ix (ix_tupK (K := K)) (pv 1) pe_int (fun _ _ => rfl))) pa_nil)) pa_nil)) (pa_cons (pe_lst (pa_cons pe_str (pa_cons pe_str pa_nil))) (pa_cons (pe_lst (pa_cons pe_str (pa_cons pe_str (pa_cons pe_str (pa_cons pe_str pa_nil))))) pa_nil)))) pa_nil)))) (pss_cons (ps_for PassesOwn.never rfl (pi_range1 (by rfl) T.b_range (pa_cons (pe_callO (ok_law_pick T) hG (hr.mono (by decide)) (pa_cons (pv 0) (pa_cons pe_int pa_nil))) pa_nil)) (pg_name (i := 5) sc_law_joined_right.nd rfl (Or.inl rfl)) (pss_one (ps_expr (pe_bmK (K := K) PySem.F.plainAttrs_list PySem.F.slot_list_append PySem.F.type_list_append mt_append (pv 3) (pa_cons (pe_joinK (K := K) pe_str (pe_lc (own := [("letter", 12)]) (g := gName 12) (tt := tYes) rfl sc_law_joined_right.nd (pi_range1 (by rfl) T.b_range (pa_cons (pv 2) pa_nil)) (blkOk_by (own := [("letter", 12)]) (N := n_law_joined_right) (sc := defScope s_law_joined_right) (by decide +kernel)) (fun _ _ _ _ _ => pg_name (i := 12) sc_law_joined_right.nd rfl (Or.inl rfl)) (fun _ _ _ _ _ => pts_nil) (fun _ _ _ _ _ => (pe_callO (ok_law_one_of T) hG (hr.mono (by decide)) (pa_cons (pv 0) (pa_cons (pv 4) pa_nil)))))) pa_nil))))) (pss_cons (ps_set (i := 6) sc_law_joined_right.nd rfl (Or.inl rfl) (pe_slice (sl_listK (K := K)) (pe_callB (cr_sortDct (K := K) rfl hr.units) (by rfl) T.b_sorted (by decide +kernel) (pa_cons (pe_callO (ok_law_tally T) hG (hr.mono (by decide)) (pa_cons (pe_callO (ok_law_without T) hG (hr.mono (by decide)) (pa_cons (pv 3) (pa_cons (pe_ix (ix_tupK (K := K)) (pv 1) pe_int (fun _ _ => rfl)) pa_nil))) pa_nil)) pa_nil)) po_none (po_some (pe_op op_sub pe_int (pe_callB (call_lenK (K := K)) (by rfl) T.b_len PySem.boot_len (pa_cons (pe_ix (ix_tupK (K := K)) (pv 1) pe_int (fun _ _ => rfl)) pa_nil)))))) (pss_cons (ps_set (i := 7) sc_law_joined_right.nd rfl (Or.inl rfl) (pe_tup (pa_cons (pv 2) (pa_cons (pe_callTy (call_tupleK (K := K)) (by rfl) T.b_tuple (by decide +kernel) (pa_cons (pe_callB (cr_sortLst (K := K) hr.units) (by rfl) T.b_sorted (by decide +kernel) (pa_cons (pe_op op_cat (pe_callTy (call_listK (K := K)) (by rfl) T.b_list (by decide +kernel) (pa_cons (pe_ix (ix_tupK (K := K)) (pv 1) pe_int (fun _ _ => rfl)) pa_nil)) (pv 6)) pa_nil)) pa_nil)) pa_nil)))) (pss_cons (ps_set (i := 8) sc_law_joined_right.nd rfl (Or.inl rfl) (pe_callO (ok_law_pick T) hG (hr.mono (by decide)) (pa_cons (pv 0) (pa_cons (pe_op op_add (pe_callB (call_lenK (K := K)) (by rfl) T.b_len PySem.boot_len (pa_cons (pv 6) pa_nil)) pe_int) pa_nil)))) (pss_cons (ps_par (i := 9) (j := 10) rfl sc_law_joined_right.nd rfl rfl (by decide) rfl rfl (pa_cons (pe_callTy (call_tupleK (K := K)) (by rfl) T.b_tuple (by decide +kernel) (pa_cons (pe_slice (sl_listK (K := K)) (pv 6) po_none (po_some (pv 8))) pa_nil)) (pa_cons (pe_callTy (call_tupleK (K := K)) (by rfl) T.b_tuple (by decide +kernel) (pa_cons (pe_slice (sl_listK (K := K)) (pv 6) (po_some (pv 8)) po_none) pa_nil)) pa_nil)) (by rfl)) (pss_cons (ps_set (i := 11) sc_law_joined_right.nd rfl (Or.inl rfl) (pe_lst (pa_cons (pe_callO (ok_joined T) hG (hr.mono (by decide)) (pa_cons (pv 1) (pa_cons (pe_callTy (call_tupleK (K := K)) (by rfl) T.b_tuple (by decide +kernel) (pa_cons (pv 6) pa_nil)) pa_nil))) (pa_cons (pe_callO (ok_joined T) hG (hr.mono (by decide)) (pa_cons (pe_callO (ok_joined T) hG (hr.mono (by decide)) (pa_cons (pv 1) (pa_cons (pv 10) pa_nil))) (pa_cons (pv 9) pa_nil))) (pa_cons (pe_callO (ok_joined T) hG (hr.mono (by decide)) (pa_cons (pv 1) (pa_cons (pe_tup pa_nil) pa_nil))) pa_nil))))) (pss_cons (ps_if (PW.pt (pw_or (pt_cmpR op_ne (pe_callB (cr_reprK (K := K) hG hr.units) (by rfl) T.b_repr (by decide +kernel) (pa_cons (pv 11) pa_nil)) (pe_callB (cr_reprK (K := K) hG hr.units) (by rfl) T.b_repr (by decide +kernel) (pa_cons (pe_lst (pa_cons (pv 7) (pa_cons (pv 7) (pa_cons (pv 1) pa_nil)))) pa_nil)) (nomark _)) (pw_or1 (pt_cmpR op_ne (pe_callB (cr_reprK (K := K) hG hr.units) (by rfl) T.b_repr (by decide +kernel) (pa_cons (pe_callKO (ok_joined T) T.k_joined_more_book hG (hr.mono (by decide)) (pk_cons (pv 10) (pk_cons (pe_callO (ok_joined T) hG (hr.mono (by decide)) (pa_cons (pv 1) (pa_cons (pv 9) pa_nil))) pk_nil))) pa_nil)) (pe_callB (cr_reprK (K := K) hG hr.units) (by rfl) T.b_repr (by decide +kernel) (pa_cons (pv 7) pa_nil)) (nomark _))))) (pss_one (ps_ret pe_bl)) pss_nil) (pss_one (ps_ret (pe_or (pe_cmpR (op_eqDK (K := K) hr.units) (pv 6) (pe_lst pa_nil) (nomark _)) (pe_one (pe_cmpR op_eq (pe_callB (cr_reprK (K := K) hG hr.units) (by rfl) T.b_repr (by decide +kernel) (pa_cons (pe_callO (ok_may_go T) hG (hr.mono (by decide)) (pa_cons (pv 7) (pa_cons (pe_callTy (call_tupleK (K := K)) (by rfl) T.b_tuple (by decide +kernel) (pa_cons (pv 6) pa_nil)) pa_nil))) pa_nil)) (pe_callB (cr_reprK (K := K) hG hr.units) (by rfl) T.b_repr (by decide +kernel) (pa_cons (pe_callO (ok_law_hangs T) hG (hr.mono (by decide)) (pa_cons (pe_ix (ix_tupK (K := K)) (pv 1) pe_int (fun _ _ => rfl)) pa_nil)) pa_nil)) (nomark _))))))))))))))), ?_⟩
    have s0 : 0 ≤ sizeLine := sz_of (by omega)
    have s1 : 1 ≤ sizeLine := sz_of (by omega)
    have s2 : 2 ≤ sizeLine := sz_of (by omega)
    have s3 : 3 ≤ sizeLine := sz_of (by omega)
    have s4 : 4 ≤ sizeLine := sz_of (by omega)
    have few := B.few
    have hi6 := B.hi
    have lo2 := B.lo
    obtain ⟨bk, t, rfl, hbG, htG⟩ := dp_book hBG
    have hb := ex_t W.e hbG
    have ht := ex_t W.e htG
    have sl := sum_len_le (m := 6) fun x hx => by
      have := (B.win.1 x hx).2
      show x.length ≤ 6
      omega
    refine ⟨_, rfl, _, _, _, _, rfl, rfl, hb, atI_of (j := 0) rfl rfl, s0, fun fa nfa => ⟨_, _, rfl, ?_⟩⟩
    have W1 := W.new (o := .lst []) nfa
    have g1 := W.free nfa
    have e1 : Ex G (upd G fa (.lst [])) := Ex.new g1
    have hfa1 : (upd G fa (.lst [])) fa = some (.lst (([] : List Str).map V.str)) := upd_same
    generalize upd G fa (.lst []) = G1 at W1 e1 hfa1
    generalize upd H fa (.lst []) = H1 at W1
    -- letters
    have hb1 := ex_t (e1.trans W1.e) hbG
    have ht1 := ex_t (e1.trans W1.e) htG
    refine ⟨_, rfl, ⟨_, rfl⟩, _, rfl, _, _, _, _, rfl, rfl, hb1, atI_of (j := 1) rfl rfl, "", t, ws, rfl, rfl, .inr ht1, ?_, ?_⟩
    · have : ("" : Str).length = 0 := by decide +kernel
      rw [this]
      omega
    have lz : (sg (Txt.join ("" : Str) ws)).length ≤ 480 := by
      rw [join_letters, letsOf_len]
      omega
    refine .inr ⟨Txt.join "" ws, _, rfl, rfl, by rw [List.length_map]; omega, fun d2 H2 e2 nd2 hd2 => ⟨d2, _, ded ((sg (Txt.join "" ws)).map one1), rfl, .inl hd2, fkv_keys _ _, ?_, fun lt nlt => ⟨s2, fun p2 np2 => ⟨s4, fun p4 np4 => ⟨s3, fun pl npl => ?_⟩⟩⟩⟩⟩
    · have := ded_le ((sg (Txt.join "" ws)).map one1)
      rw [List.length_map] at this
      omega
    rw [join_letters] at *
    obtain ⟨G2, eg2, W2, _⟩ := W1.ex e2
    have W3 := W2.new (o := .lst ((sortS (ded ((letsOf ws).map one1))).map V.str)) nlt
    have W4 := W3.new (o := .lst [.str "a", .str "q"]) np2
    have W5 := W4.new (o := .lst [.str "n", .str "o", .str "p", .str "z"]) np4
    have f3 := W2.free nlt
    have f4 := W3.free np2
    have f5 := W4.free np4
    have x3 := Ex.new (o := .lst ((sortS (ded ((letsOf ws).map one1))).map V.str)) f3
    have x4 := Ex.new (o := .lst [.str "a", .str "q"]) f4
    have x5 := Ex.new (o := .lst [.str "n", .str "o", .str "p", .str "z"]) f5
    refine ⟨w, .ref pl, 3, c, _, rfl, by omega, by omega, by omega, W5.new npl, .inr ⟨pl, _, rfl, .inl (SqL.of upd_same), rfl, fun v H6 hv W6 => ?_⟩⟩
    have x6 := Ex.new (o := .lst [.ref lt, .ref p2, .ref p4]) (W5.free npl)
    obtain ⟨la, ls, rfl, hla, hls, ls0, ls5⟩ : ∃ (la : Addr) (ls : List Str), v = .ref la ∧ (upd (upd (upd (upd G2 lt (.lst ((sortS (ded ((letsOf ws).map one1))).map V.str))) p2 (.lst [.str "a", .str "q"])) p4 (.lst [.str "n", .str "o", .str "p", .str "z"])) pl (.lst [.ref lt, .ref p2, .ref p4])) la = some (.lst (ls.map V.str)) ∧ (∀ l ∈ ls, Word l ∧ l.length = 1) ∧ 1 ≤ ls.length ∧ ls.length ≤ 500 := by
      simp only [List.mem_cons, List.mem_nil_iff, or_false] at hv
      rcases hv with rfl | rfl | rfl
      · refine ⟨_, letL ws, rfl, x6 _ _ (x5 _ _ (x4 _ _ upd_same)), fun l hl => ?_, ?_, (letL_len B).1⟩
        · obtain ⟨c, hc, rfl⟩ := (letL_of ws l).mp hl
          exact ⟨fun a ha => by rw [List.mem_singleton.mp ha]; exact let_word B hc, rfl⟩
        · obtain ⟨x, hx⟩ := List.exists_mem_of_ne_nil _ B.ne
          have hxl := (B.win.1 x hx).2
          obtain ⟨a, ha⟩ := List.exists_mem_of_ne_nil (sg x) (fun h => by rw [len_sg, h] at hxl; have : ([] : List Nat).length = 0 := rfl; omega)
          exact List.length_pos_of_mem ((letL_of ws (one1 a)).mpr ⟨a, letsOf_mem.mpr ⟨x, hx, ha⟩, rfl⟩)
      · refine ⟨_, ["a", "q"], rfl, x6 _ _ (x5 _ _ upd_same), fun l hl => ?_, by decide, by decide⟩
        simp only [List.mem_cons, List.mem_nil_iff, or_false] at hl
        rcases hl with rfl | rfl <;> exact ⟨word_lit _ (by decide +kernel), by decide +kernel⟩
      · refine ⟨_, ["n", "o", "p", "z"], rfl, x6 _ _ upd_same, fun l hl => ?_, by decide, by decide⟩
        simp only [List.mem_cons, List.mem_nil_iff, or_false] at hl
        rcases hl with rfl | rfl | rfl | rfl <;> exact ⟨word_lit _ (by decide +kernel), by decide +kernel⟩
    have e16 : Ex G1 (upd (upd (upd (upd G2 lt (.lst ((sortS (ded ((letsOf ws).map one1))).map V.str))) p2 (.lst [.str "a", .str "q"])) p4 (.lst [.str "n", .str "o", .str "p", .str "z"])) pl (.lst [.ref lt, .ref p2, .ref p4])) := eg2.trans ((x3.trans x4).trans (x5.trans x6))
    have W6' : Wt w (c + 1) (upd (upd (upd (upd G2 lt (.lst ((sortS (ded ((letsOf ws).map one1))).map V.str))) p2 (.lst [.str "a", .str "q"])) p4 (.lst [.str "n", .str "o", .str "p", .str "z"])) pl (.lst [.ref lt, .ref p2, .ref p4])) H6 := W6
    clear W6 x3 x4 x5 x6 f3 f4 f5 hv
    generalize upd (upd (upd (upd G2 lt (.lst ((sortS (ded ((letsOf ws).map one1))).map V.str))) p2 (.lst [.str "a", .str "q"])) p4 (.lst [.str "n", .str "o", .str "p", .str "z"])) pl (.lst [.ref lt, .ref p2, .ref p4]) = G6 at W6' hla e16
    have hfa6 := e16 _ _ hfa1
    have e06 : Ex G (hide fa G6) := fun a o h => by
      rw [hide_ne (ne_of_none h g1)]
      exact (e1.trans e16) _ _ h
    -- draws of windows
    refine ⟨_, rfl, w, 5, c + 1, G6, rfl, by omega, by omega, by omega, W6', fun i7 H7 hi7 W7 => ⟨_, rfl, by omega, by omega, ?_⟩⟩
    rw [Int.toNat_natCast]
    have lafa : la ≠ fa := fun z => by
      rw [z, hfa6] at hla
      have h0 : ([] : List V) = ls.map V.str := HO.lst.inj (Option.some.inj hla)
      have := congrArg List.length h0
      rw [List.length_map] at this
      have z0 : ([] : List V).length = 0 := rfl
      omega
    refine fo_rng (fun k σ H' => ∃ (G' : Hp) (fs : List Str) (x5 : Option V), σ = [some (.ref w), some (.ref bk), some (.int (n : Int)), some (.ref fa), some (.ref la), x5, none, none, none, none, none, none, none] ∧ Ex (hide fa G6) G' ∧ Wt w (c + 10 + 10 * k) G' H' ∧ G' fa = some (.lst (fs.map V.str)) ∧ (∀ x ∈ fs, Word x ∧ x.length = n) ∧ fs.length ≤ k) ?_ ?_ ?_
    · exact ⟨G6, [], _, rfl, hide_ex, W7.up (by omega), hfa6, fun x h => (List.not_mem_nil h).elim, Nat.zero_le _⟩
    · rintro k σ H8 hk ⟨G8, fs, x5, rfl, e8, W8, hfa8, hfs, lf⟩
      have hfaH := W8.e _ _ hfa8
      refine ⟨_, rfl, .inl ⟨rfl, _, SqL.of hfaH⟩, ⟨_, rfl⟩, _, rfl, _, rfl, by omega, by omega, fun D nD => ?_⟩
      rw [Int.toNat_natCast]
      have hla8 : G8 la = some (.lst (ls.map V.str)) := e8 _ _ (by rw [hide_ne lafa]; exact hla)
      refine lc_w (K := K) (G0 := G8) src_rng (by omega) (fun i => c + 10 + 10 * k + i) (fun i ds => ∃ l : List Str, ds = l.map PyData.str ∧ l.length = i ∧ ∀ a ∈ l, a ∈ ls) W8 nD ⟨[], rfl, rfl, fun _ h => (List.not_mem_nil h).elim⟩ (fun i x G9 H9 ds Y Z hi e9 W9 hx r hy hz => ?_) (fun i ds ⟨l, e, hl, _⟩ => by rw [e, List.length_map, hl]; exact Nat.le_refl _) (fun G9 H9 acc ds e9 W9 hD ha _ r => ?_)
      · obtain ⟨l, rfl, hl, hin⟩ := r
        refine ⟨rfl, lc_yes ⟨_, rfl, _, rfl, w, .ref la, ls.length, c + 10 + 10 * k + i, G9, rfl, ls0, by omega, by omega, W9, .inr ⟨la, _, rfl, .inl (SqL.of (e9 _ _ hla8)), by rw [List.length_map], fun v H10 hv W10 => ?_⟩⟩⟩
        obtain ⟨a, ha, rfl⟩ := str_mem hv
        exact hy _ (.str a) G9 H10 (Ex.refl _) W10 (.str _) rfl ⟨l ++ [a], by rw [List.map_append]; rfl, by rw [List.length_append, hl]; rfl, fun b hb => (List.mem_append.mp hb).elim (hin b) fun h => by rw [List.mem_singleton.mp h]; exact ha⟩
      · obtain ⟨l, rfl, hl, hin⟩ := r
        have ha := strs_dpa ha
        subst ha
        have hlw : ∀ x ∈ l, Word x ∧ x.length = 1 := fun x hx => hls x (hin x hx)
        obtain ⟨jw, jl⟩ := join_word hlw hl
        have hfa9 := e9 _ _ hfa8
        refine ⟨"", D, l, rfl, rfl, .inl (SqL.of (W9.e _ _ hD)), ?_, fa, _, _, rfl, rfl, W9.e _ _ hfa9, sz_lt (by rw [List.length_map]; omega), ?_⟩
        · have := sum_len_le (m := 1) fun x hx => by
            have := (hlw x hx).2
            show x.length ≤ 1
            omega
          have : ("" : Str).length = 0 := by decide +kernel
          rw [this]
          omega
        · refine ⟨upd G9 fa _, fs ++ [Txt.join "" l], _, rfl, ?_, (W9.mut hfa9).up (by omega), ?_, fun x hx => ?_, ?_⟩
          · exact fun a o h => by
              rw [upd_ne (ne_of_none h hide_at)]
              exact e9 _ _ (e8 _ _ h)
          · rw [upd_same, List.map_append]
            rfl
          · rcases List.mem_append.mp hx with hx | hx
            · exact hfs x hx
            · rw [List.mem_singleton.mp hx]
              exact ⟨jw, jl⟩
          · rw [List.length_append]
            show fs.length + 1 ≤ _
            omega
    rintro σ H8 ⟨G8, fs, x5, rfl, e8, W8, hfa8, hfs, lf⟩
    have lf4 : fs.length ≤ 4 := by omega
    have W8 := W8.up (show c + 10 + 10 * i7 ≤ c + 60 by omega)
    have e08 := e06.trans e8
    have hb8 := ex_t (e08.trans W8.e) hbG
    have ht8 := ex_t (e08.trans W8.e) htG
    have hBd8 := dp_ex (e08.trans W8.e) hBG
    -- those that are new
    refine ⟨_, rfl, _, rfl, _, _, _, _, rfl, rfl, hb8, atI_of (j := 1) rfl rfl, fa, t, fs, ws, rfl, .inl (SqL.of (W8.e _ _ hfa8)), .inr ht8, by omega, fun m9 H9 e9 nm9 hm9 => ?_⟩
    have ml := minus_len fs ws
    refine .inl ⟨m9, minus fs ws, rfl, SqL.of hm9, by omega, fun d H10 e10 nd hd => ⟨d, _, ded (minus fs ws), rfl, .inl hd, fkv_keys _ _, ?_, fun sp nsp => ?_⟩⟩
    · have := ded_le (minus fs ws)
      omega
    have hsp : (upd H10 sp (.lst ((sortS (ded (minus fs ws))).map V.str))) sp = some (.lst ((sortS (ded (minus fs ws))).map V.str)) := upd_same
    have e11 := (e9.trans e10).trans (Ex.new (o := .lst ((sortS (ded (minus fs ws))).map V.str)) nsp)
    generalize upd H10 sp (.lst ((sortS (ded (minus fs ws))).map V.str)) = H11 at hsp e11
    refine ⟨_, rfl, _, _, _, _, rfl, rfl, ex_t e11 hb8, atI_of (j := 1) rfl rfl, t, _, rfl, .inr (ex_t e11 ht8), _, _, rfl, rfl, _, rfl, sp, _, rfl, SqL.of hsp, fun mr nmr => ?_⟩
    obtain ⟨ck, hck⟩ := cutV_take ((sortS (ded (minus fs ws))).map V.str) (40 - ((ws.map V.str).length : Int))
    have hmr : (upd H11 mr (.lst (cutV ((sortS (ded (minus fs ws))).map V.str) none (some (40 - ((ws.map V.str).length : Int)))))) mr = some (.lst (((sortS (ded (minus fs ws))).take ck).map V.str)) := by rw [upd_same, hck, List.map_take]
    have e12 := e11.trans (Ex.new (o := .lst (cutV ((sortS (ded (minus fs ws))).map V.str) none (some (40 - ((ws.map V.str).length : Int))))) nmr)
    generalize upd H11 mr (.lst (cutV ((sortS (ded (minus fs ws))).map V.str) none (some (40 - ((ws.map V.str).length : Int))))) = H12 at hmr e12
    have msW : Win n ((sortS (ded (minus fs ws))).take ck) := win_take ⟨fun x hx => hfs x (minus_mem.mp (ded_mem.mp (sortS_mem.mp hx))).1, sortS_asc (ded_nd _)⟩ ck
    have msN : ∀ x ∈ (sortS (ded (minus fs ws))).take ck, x ∉ ws := fun x hx => (minus_mem.mp (ded_mem.mp (sortS_mem.mp (List.mem_of_mem_take hx)))).2
    have msL : ((sortS (ded (minus fs ws))).take ck).length ≤ 4 := by
      rw [List.length_take, sortS_len]
      have := ded_le (minus fs ws)
      omega
    generalize (sortS (ded (minus fs ws))).take ck = ms at hmr msW msN msL
    have hb12 := ex_t e12 hb8
    have ht12 := ex_t e12 ht8
    -- due
    have BJ := B.join msW msN (by omega)
    refine ⟨_, rfl, _, rfl, _, _, _, _, rfl, rfl, hb12, atI_of (j := 1) rfl rfl, t, _, rfl, .inr ht12, fun l nl => ⟨_, rfl, l, mr, _, _, rfl, rfl, upd_same, Ex.new nl _ _ hmr, sz_of (by rw [List.length_map, List.length_map]; omega), fun cc ncc => ⟨cc, ws ++ ms, rfl, SqL.of (by rw [List.map_append]; exact upd_same), by rw [List.length_append]; omega, fun so nso => ⟨so, _, rfl, .inl ⟨SqL.of upd_same, fun tt ntt => ⟨s2, fun du ndu => ?_⟩⟩⟩⟩⟩⟩
    have ea := Ex.new (o := .lst (ws.map V.str)) nl
    have eb := Ex.new (o := .lst (ws.map V.str ++ ms.map V.str)) ncc
    have ec := Ex.new (o := .lst ((sortS (ws ++ ms)).map V.str)) nso
    have ed := Ex.new (o := .tup ((sortS (ws ++ ms)).map V.str)) ntt
    have ee := Ex.new (o := .tup [.int (n : Int), .ref tt]) ndu
    have hdu := bookDp (K := K) (n := n) (ws := sortS (ws ++ ms)) (SqT.of (upd_same (H := upd (upd (upd (upd H12 l (.lst (ws.map V.str))) cc (.lst (ws.map V.str ++ ms.map V.str))) so (.lst ((sortS (ws ++ ms)).map V.str))) tt (.tup ((sortS (ws ++ ms)).map V.str))) (a := du) (o := .tup [.int (n : Int), .ref tt]))) (SqT.of (ee _ _ upd_same))
    have e1213 := (ea.trans eb).trans ((ec.trans ed).trans ee)
    generalize upd (upd (upd (upd (upd H12 l (.lst (ws.map V.str))) cc (.lst (ws.map V.str ++ ms.map V.str))) so (.lst ((sortS (ws ++ ms)).map V.str))) tt (.tup ((sortS (ws ++ ms)).map V.str))) du (.tup [.int (n : Int), .ref tt]) = H13 at hdu e1213
    have hmr13 := e1213 _ _ hmr
    have e13 := e12.trans e1213
    obtain ⟨G13, eg13, W13, hG13⟩ := W8.ex e13
    obtain ⟨wg, wm, wk, hwk, hWw⟩ := W8.h
    have mrw : mr ≠ w := (ne_of_none (e11 _ _ hWw) nmr).symm
    have hmrG : G13 mr = some (.lst (ms.map V.str)) := by
      rw [hG13, hide_ne mrw]
      exact hmr13
    have hduG : Dp K G13 (.ref du) (bookD n (sortS (ws ++ ms))) := by
      rw [hG13]
      exact dp_hideT (e13 _ _ hWw) (topBook _ _) hdu
    refine ⟨_, rfl, _, rfl, mr, _, rfl, .inl (SqL.of hmr13), _, _, rfl, rfl, w, ms.length + 1, c + 60, G13, by rw [List.length_map]; rfl, by omega, by omega, by omega, W13, fun k H14 hk W14 => ?_⟩
    have hmr14 := W14.e _ _ hmrG
    have hdu14 := dp_ex W14.e hduG
    have hB14 := dp_ex ((e08.trans eg13).trans W14.e) hBG
    clear hmr13 hdu hmr
    -- in two parts
    refine ⟨_, rfl, _, rfl, _, rfl, mr, _, rfl, SqL.of hmr14, fun a1 na1 => ⟨a1, _, rfl, .inl ⟨SqL.of upd_same, fun t1 nt1 => ⟨_, rfl, _, rfl, _, rfl, mr, _, rfl, SqL.of (Ex.new nt1 _ _ (Ex.new na1 _ _ hmr14)), fun a2 na2 => ⟨a2, _, rfl, .inl ⟨SqL.of upd_same, fun t2 nt2 => ⟨_, _, rfl, ?_⟩⟩⟩⟩⟩⟩⟩
    have f1 := Ex.new (o := .lst (cutV (ms.map V.str) none (some (k : Int)))) na1
    have f2 := Ex.new (o := .tup (cutV (ms.map V.str) none (some (k : Int)))) nt1
    have f3 := Ex.new (o := .lst (cutV (ms.map V.str) (some (k : Int)) none)) na2
    have f4 := Ex.new (o := .tup (cutV (ms.map V.str) (some (k : Int)) none)) nt2
    have e1415 := (f1.trans f2).trans (f3.trans f4)
    have d1 : Dp K (upd (upd (upd (upd H14 a1 (.lst (cutV (ms.map V.str) none (some (k : Int))))) t1 (.tup (cutV (ms.map V.str) none (some (k : Int))))) a2 (.lst (cutV (ms.map V.str) (some (k : Int)) none))) t2 (.tup (cutV (ms.map V.str) (some (k : Int)) none))) (.ref t1) (strsT (ms.take k)) :=
      dpT (SqT.of (by rw [← show cutV (ms.map V.str) none (some (k : Int)) = (ms.take k).map V.str by rw [cutV_to, List.map_take]]; exact (f3.trans f4) _ _ upd_same))
    have d2 : Dp K (upd (upd (upd (upd H14 a1 (.lst (cutV (ms.map V.str) none (some (k : Int))))) t1 (.tup (cutV (ms.map V.str) none (some (k : Int))))) a2 (.lst (cutV (ms.map V.str) (some (k : Int)) none))) t2 (.tup (cutV (ms.map V.str) (some (k : Int)) none))) (.ref t2) (strsT (ms.drop k)) :=
      dpT (SqT.of (by rw [← show cutV (ms.map V.str) (some (k : Int)) none = (ms.drop k).map V.str by rw [cutV_from, List.map_drop]]; exact upd_same))
    generalize upd (upd (upd (upd H14 a1 (.lst (cutV (ms.map V.str) none (some (k : Int))))) t1 (.tup (cutV (ms.map V.str) none (some (k : Int))))) a2 (.lst (cutV (ms.map V.str) (some (k : Int)) none))) t2 (.tup (cutV (ms.map V.str) (some (k : Int)) none)) = H15 at d1 d2 e1415
    have hmr15 := e1415 _ _ hmr14
    have hB15 := dp_ex e1415 hB14
    have hdu15 := dp_ex e1415 hdu14
    have tin : ∀ z ∈ ms.take k, z ∈ ms := fun z hz => List.mem_of_mem_take hz
    have din : ∀ z ∈ ms.drop k, z ∈ ms := fun z hz => List.mem_of_mem_drop hz
    have tl : (ms.take k).length ≤ 4 := by
      rw [List.length_take]
      omega
    have dl : (ms.drop k).length ≤ 4 := by
      rw [List.length_drop]
      omega
    have nd3 := (List.nodup_append.mp (by rw [List.take_append_drop k ms]; exact msW.2.nodup : (ms.take k ++ ms.drop k).Nodup)).2.2
    have Bt := B.join (win_take msW k) (fun x hx => msN x (tin x hx)) (by omega)
    have Bd := B.join (win_drop msW k) (fun x hx => msN x (din x hx)) (by omega)
    have no1 : ∀ x ∈ ms.take k, x ∉ sortS (ws ++ ms.drop k) := fun x hx h => (List.mem_append.mp (sortS_mem.mp h)).elim (msN x (tin x hx)) fun h => nd3 x hx x h rfl
    have no2 : ∀ x ∈ ms.drop k, x ∉ sortS (ws ++ ms.take k) := fun x hx h => (List.mem_append.mp (sortS_mem.mp h)).elim (msN x (din x hx)) fun h => nd3 x h x hx rfl
    have lt1 : (sortS (ws ++ ms.take k)).length ≤ 78 := by
      rw [sortS_len, List.length_append, List.length_take]
      omega
    have lt2 : (sortS (ws ++ ms.drop k)).length ≤ 78 := by
      rw [sortS_len, List.length_append, List.length_drop]
      omega
    have fw1 : (sortS (ws ++ ms.drop k)).length + (ms.take k).length ≤ 80 := by
      rw [sortS_len, List.length_append, List.length_take, List.length_drop]
      omega
    have fw2 : (sortS (ws ++ ms.take k)).length + (ms.drop k).length ≤ 80 := by
      rw [sortS_len, List.length_append, List.length_take, List.length_drop]
      omega
    obtain ⟨j1, j2⟩ := join_two B.win.2 msW.2 msN k
    have shw3 : Shw (.list [bookD n (sortS (ws ++ ms)), bookD n (sortS (ws ++ ms)), bookD n ws]) := shwBooks (l := [sortS (ws ++ ms), sortS (ws ++ ms), ws]) hi6 (fun us hu => by
      simp only [List.mem_cons, List.mem_nil_iff, or_false] at hu
      rcases hu with rfl | rfl | rfl
      · exact BJ.small
      · exact BJ.small
      · exact B.small) (by show 3 ≤ 10; omega)
    have shw1 := shwBook (n := n) (by omega) BJ.ws
    -- told
    refine ⟨_, rfl, _, rfl, mr, _, rfl, .inl ⟨SqL.of hmr15, fun t3 nt3 => ⟨.ref bk, .ref t3, n, ws, ms, rfl, dp_ex (Ex.new nt3) hB15, dpT (SqT.of upd_same), B, msW, msN, by omega, fun u1 H16 e16 hu1 => ?_⟩⟩⟩
    have e1516 := (Ex.new nt3).trans e16
    refine ⟨_, rfl, _, rfl, .ref bk, .ref t2, n, ws, ms.drop k, rfl, dp_ex e1516 hB15, dp_ex e1516 d2, B, win_drop msW k, fun x hx => msN x (din x hx), by omega, fun u2 H17 e17 hu2 => ?_⟩
    have e1517 := e1516.trans e17
    refine ⟨_, rfl, u2, .ref t1, n, _, ms.take k, rfl, hu2, dp_ex e1517 d1, Bd, win_take msW k, no1, fw1, fun u3 H18 e18 hu3 => ?_⟩
    rw [j1] at hu3
    have e1518 := e1517.trans e18
    refine ⟨_, rfl, s0, fun tn ntn => ⟨.ref bk, .ref tn, n, ws, [], rfl, dp_ex (e1518.trans (Ex.new ntn)) hB15, .tup (SqT.of upd_same) .nil, B, ⟨fun x h => (List.not_mem_nil h).elim, List.Pairwise.nil⟩, fun x h => (List.not_mem_nil h).elim, by show _ + 0 ≤ _; omega, fun u4 H19 e19 hu4 => ⟨s3, fun tl ntl => ?_⟩⟩⟩
    rw [List.append_nil, sortS_id B.win.2] at hu4
    have e1819 := (Ex.new (o := .tup []) ntn).trans e19
    have e1920 := Ex.new (o := .lst [u1, u3, u4]) ntl
    have e1520 := (e1518.trans e1819).trans e1920
    have hu1 := dp_ex ((e17.trans e18).trans (e1819.trans e1920)) hu1
    have hu3 := dp_ex (e1819.trans e1920) hu3
    have hu4 := dp_ex e1920 hu4
    have htl : (upd H19 tl (.lst [u1, u3, u4])) tl = some (.lst [u1, u3, u4]) := upd_same
    generalize upd H19 tl (.lst [u1, u3, u4]) = H20 at e1520 hu1 hu3 hu4 htl
    refine ⟨_, rfl, .ref tl, .list [bookD n (sortS (ws ++ ms)), bookD n (sortS (ws ++ ms)), bookD n ws], rfl, .lst (SqL.of htl) (.cons hu1 (.cons hu3 (.cons hu4 .nil))), shw3, _, rfl, _, rfl, _, rfl, s3, fun dl2 ndl => ?_⟩
    have e2021 := Ex.new (o := .lst [.ref du, .ref du, .ref bk]) ndl
    have e1521 := e1520.trans e2021
    have hdu21 := dp_ex e1521 hdu15
    have hB21 := dp_ex e1521 hB15
    refine ⟨.ref dl2, .list [bookD n (sortS (ws ++ ms)), bookD n (sortS (ws ++ ms)), bookD n ws], rfl, .lst (SqL.of upd_same) (.cons hdu21 (.cons hdu21 (.cons hB21 .nil))), shw3, rfl, _, rfl, ?_⟩
    rw [decide_eq_true rfl]
    generalize upd H20 dl2 (.lst [.ref du, .ref du, .ref bk]) = H21 at e1521 hdu21 hB21
    refine iteF ⟨_, rfl, _, rfl, _, rfl, .ref bk, .ref t1, n, ws, ms.take k, rfl, hB21, dp_ex e1521 d1, B, win_take msW k, fun x hx => msN x (tin x hx), by omega, fun u5 H22 e22 hu5 => ⟨rfl, u5, .ref t2, n, _, ms.drop k, rfl, hu5, dp_ex (e1521.trans e22) d2, Bt, win_drop msW k, no2, fw2, fun u6 H23 e23 hu6 => ?_⟩⟩
    rw [j2] at hu6
    have e1523 := (e1521.trans e22).trans e23
    have hdu23 := dp_ex e1523 hdu15
    refine ⟨u6, _, rfl, hu6, shw1, _, rfl, .ref du, _, rfl, hdu23, shw1, rfl, _, rfl, ?_⟩
    rw [decide_eq_true rfl]
    have hmr23 := e1523 _ _ hmr15
    have fin : ∀ Hn, Ex H23 Hn → Q (.bl true) Hn := fun Hn en => by
      obtain ⟨Gn, egn, Wn, _⟩ := W14.ex ((e1415.trans e1523).trans en)
      exact q _ _ ((e08.trans eg13).trans egn) (Wn.up (by omega))
    refine iteF ⟨_, rfl, s0, fun en nen => ⟨strsL ms, .list [], dpL (SqL.of (Ex.new nen _ _ hmr23)), .lst (SqL.of upd_same) .nil, shapedL (fun x hx => (msW.1 x hx).1), rfl, ?_⟩⟩
    by_cases hm : ms = []
    · rw [hm]
      exact ⟨_, rfl, iteT (fin _ (Ex.new nen))⟩
    · rw [show PyData.eqv (strsL ms) (.list []) = false by
        cases ms with
        | nil => exact absurd rfl hm
        | cons x l => rfl]
      have e24 := Ex.new (o := .lst []) nen
      refine ⟨_, rfl, iteF ⟨_, rfl, _, rfl, mr, _, rfl, .inl ⟨SqL.of (e24 _ _ hmr23), fun t4 nt4 => ?_⟩⟩⟩
      have e25 := e24.trans (Ex.new (o := .tup (ms.map V.str)) nt4)
      refine ⟨.ref du, .ref t4, n, _, ms, rfl, dp_ex e25 hdu23, dpT (SqT.of upd_same), BJ, msW, fun x hx => sortS_mem.mpr (List.mem_append_right _ hx), ?_, fun b1 H26 e26 hb1 => ?_⟩
      · rw [sortS_len, List.length_append]
        have := List.length_pos_iff.mpr B.ne
        omega
      rw [go_again msN B.ne] at hb1
      have e2326 := e25.trans e26
      obtain ⟨bk2, tk2, eqb, hb2, ht2⟩ := dp_book (dp_ex (e1523.trans e2326) hB15)
      cases eqb
      refine ⟨b1, _, rfl, hb1, shwB _, _, rfl, _, _, _, _, rfl, rfl, hb2, atI_of (j := 1) rfl rfl, tk2, ws, rfl, .inr ht2, B.ws, fun b2 H27 e27 hb2 => ⟨b2, _, rfl, hb2, shwB _, rfl, ?_⟩⟩
      rw [decide_eq_true rfl]
      exact fin _ (e2326.trans e27)
end

/-! ### a torn book -/
section
variable {P : Program} {w : World} {K : PySem.W.Frag} {mg : Str → Option Value} {base : Heap}
def sp_law_torn_book (K : PySem.W.Frag) : Sp := fun vs H Q _ => ∃ (w : Addr) (c : Nat) (G : Hp), vs = [.ref w] ∧ c ≤ 10000 ∧ Wt w c G H ∧
  ∀ (b : Addr) (n : Nat) (ws : List Str) (G' H' : Hp), Ex G G' → Wt w (c + 100) G' H' → Dp K G' (.ref b) (bookD n ws) → Bk n ws → ws.length ≤ 12 → Q (.ref b) H'
theorem ok_law_torn_book (T : Tx K mg) : Ok P w K mg base CX0 3 "_law_torn_book" ["well"] (sp_law_torn_book K) := by
  refine T.d_law_torn_book.ok sc_law_torn_book (fun vs H Q E h => ?_) (fun f cdv A outer s H vs Q E hG hr h => ?_)
  · obtain ⟨w, c, G, rfl, _⟩ := h
    rfl
  · obtain ⟨w, c, G, rfl, hc, W, q⟩ := h
    refine ⟨_, (pss_cons (ps_asg (pe_tup (pa_cons (pe_op op_add pe_int (pe_callO (ok_law_pick T) hG (hr.mono (by decide)) (pa_cons (pv 0) (pa_cons pe_int pa_nil)))) (pa_cons (pe_callO (ok_law_one_of T) hG (hr.mono (by decide)) (pa_cons (pv 0) (pa_cons (pe_lst (pa_cons pe_str (pa_cons pe_str (pa_cons pe_str (pa_cons pe_str pa_nil))))) pa_nil))) pa_nil))) (pg_tup rfl (pgs_cons (pg_name (i := 1) sc_law_torn_book.nd rfl (Or.inl rfl)) (pgs_cons (pg_name (i := 2) sc_law_torn_book.nd rfl (Or.inr rfl)) pgs_nil)))) (pss_cons (ps_set (i := 3) sc_law_torn_book.nd rfl (Or.inl rfl) (pe_joinK (K := K) pe_str (pe_lc (own := [("letter", 6)]) (g := gName 6) (tt := tYes) rfl sc_law_torn_book.nd (pi_range1 (by rfl) T.b_range (pa_cons (pe_op op_add pe_int (pe_callO (ok_law_pick T) hG (hr.mono (by decide)) (pa_cons (pv 0) (pa_cons pe_int pa_nil)))) pa_nil)) (blkOk_by (own := [("letter", 6)]) (N := n_law_torn_book) (sc := defScope s_law_torn_book) (by decide +kernel)) (fun _ _ _ _ _ => pg_name (i := 6) sc_law_torn_book.nd rfl (Or.inl rfl)) (fun _ _ _ _ _ => pts_nil) (fun _ _ _ _ _ => (pe_callO (ok_law_one_of T) hG (hr.mono (by decide)) (pa_cons (pv 0) (pa_cons (pv 2) pa_nil))))))) (pss_cons (ps_set (i := 4) sc_law_torn_book.nd rfl (Or.inl rfl) (pe_callO (ok_law_round T) hG (hr.mono (by decide)) (pa_cons (pv 1) (pa_cons (pv 3) pa_nil)))) (pss_cons (ps_set (i := 5) sc_law_torn_book.nd rfl (Or.inl rfl) (pe_callO (ok_law_without T) hG (hr.mono (by decide)) (pa_cons (pv 4) (pa_cons (pe_slice (sl_listK (K := K)) (pv 4) po_none (po_some (pe_callO (ok_law_pick T) hG (hr.mono (by decide)) (pa_cons (pv 0) (pa_cons pe_int pa_nil))))) pa_nil)))) (pss_cons (ps_if (pt_cmpR (op_eqDK (K := K) hr.units) (pv 5) (pe_lst pa_nil) (nomark _)) (pss_one (ps_set (i := 5) sc_law_torn_book.nd rfl (Or.inl rfl) (pe_slice (sl_listK (K := K)) (pv 4) po_none (po_some pe_int)))) pss_nil) (pss_one (ps_ret (pe_tup (pa_cons (pv 1) (pa_cons (pe_callTy (call_tupleK (K := K)) (by rfl) T.b_tuple (by decide +kernel) (pa_cons (pe_callB (cr_sortDct (K := K) rfl hr.units) (by rfl) T.b_sorted (by decide +kernel) (pa_cons (pe_callO (ok_law_tally T) hG (hr.mono (by decide)) (pa_cons (pv 5) pa_nil)) pa_nil)) pa_nil)) pa_nil)))))))))), ?_⟩
    have s0 : 0 ≤ sizeLine := sz_of (by omega)
    have s2 : 2 ≤ sizeLine := sz_of (by omega)
    have s4 : 4 ≤ sizeLine := sz_of (by omega)
    refine ⟨_, rfl, w, 5, c, G, rfl, by omega, by omega, by omega, W, fun i H1 hi W1 => ⟨2, i, rfl, rfl, _, rfl, s4, fun p np => ⟨w, .ref p, 4, c + 1, upd G p _, rfl, by omega, by omega, by omega, W1.new np, .inr ⟨p, _, rfl, .inl (SqL.of upd_same), rfl, fun v H2 hv W2 => ?_⟩⟩⟩⟩
    obtain ⟨z, hz, rfl⟩ := str_mem (is := ["ab", "ab", "abc", "xyz"]) hv
    have hL : Word z ∧ 1 ≤ z.length ∧ z.length ≤ 5 := by
      simp only [List.mem_cons, List.mem_nil_iff, or_false] at hz
      rcases hz with rfl | rfl | rfl | rfl <;> exact ⟨word_lit _ (by decide +kernel), by decide +kernel, by decide +kernel⟩
    refine ⟨s2, fun q1 nq1 => ⟨q1, _, rfl, SqT.of upd_same, rfl, _, _, rfl, _, _, rfl, rfl, ?_⟩⟩
    obtain ⟨n, hn, hn2, hn6⟩ : ∃ n : Nat, (2 : Int) + (i : Int) = (n : Int) ∧ 2 ≤ n ∧ n ≤ 6 := ⟨2 + i, by omega, by omega, by omega⟩
    have W3 := W2.new (o := .tup [.int (2 + (i : Int)), .str z]) nq1
    have e3 : Ex G (upd (upd G p (.lst [.str "ab", .str "ab", .str "abc", .str "xyz"])) q1 (.tup [.int (2 + (i : Int)), .str z])) := (Ex.new (W1.free np)).trans (Ex.new (W2.free nq1))
    generalize upd (upd G p (.lst [.str "ab", .str "ab", .str "abc", .str "xyz"])) q1 (.tup [.int (2 + (i : Int)), .str z]) = G3 at W3 e3
    generalize upd H2 q1 (.tup [.int (2 + (i : Int)), .str z]) = H3 at W3
    dsimp only
    rw [hn]
    -- the ring
    refine ⟨⟨_, rfl⟩, _, rfl, w, 11, c + 2, G3, rfl, by omega, by omega, by omega, W3, fun i3 H7 hi3 W7 => ⟨2, i3, rfl, rfl, _, rfl, by omega, by omega, fun D np7 => ?_⟩⟩
    have ei3 : ((2 : Int) + (i3 : Int)).toNat = 2 + i3 := by omega
    rw [ei3]
    refine lc_letters (K := K) (z := z) W7 (by omega) (by omega) np7 (fun i4 x c4 G8 H8 Y e8 hc4 W8 hy => ?_) (fun G9 H9 l e9 W9 hl hlm hD => ?_)
    · exact ⟨rfl, lc_yes ⟨_, rfl, _, rfl, w, .str z, z.length, c4, G8, rfl, hL.2.1, by omega, hc4, W8, .inl ⟨z, rfl, rfl, hy⟩⟩⟩
    refine ⟨"", D, l.map one1, rfl, rfl, .inl (SqL.of (W9.e _ _ hD)), ?_, ?_⟩
    · rw [lens_ones1, hl]
      have : ("" : Str).length = 0 := by decide +kernel
      rw [this]
      omega
    rw [join_ones1]
    have hr : Ring (tx l) := ⟨ring_tx hL.1 hlm, by show 1 ≤ l.length; omega, by show l.length ≤ 100; omega⟩
    have hrl : (tx l).length = 2 + i3 := hl
    generalize tx l = ring at hr hrl
    have rl : (rnd n ring).length = 2 + i3 := by rw [rnd_len, hrl]
    have rs := rnd_stp (n := n) hr
    refine ⟨_, rfl, _, rfl, n, ring, rfl, hr.2.1, by omega, by omega, fun fa Ha ea na ha => ?_⟩
    obtain ⟨G10, e10, W10, ha10, _⟩ := W9.newt ea na ha
    generalize hst : rnd n ring = st at ha10 rl rs
    -- without some
    refine ⟨_, rfl, _, rfl, _, rfl, w, 5, _, G10, rfl, by omega, by omega, by omega, W10, fun i5 H8 hi5 W11 => ⟨_, rfl, fa, _, rfl, SqL.of (W11.e _ _ ha10), fun pc npc => ?_⟩⟩
    obtain ⟨ck, hck⟩ := cutV_take (st.map V.str) (i5 : Int)
    rw [hck, ← List.map_take]
    have W12 := W11.new (o := .lst ((st.take ck).map V.str)) npc
    have g12 := W11.free npc
    have ha12 := Ex.new (o := .lst ((st.take ck).map V.str)) g12 _ _ ha10
    refine ⟨fa, pc, st, st.take ck, rfl, .inl (SqL.of (W12.e _ _ ha12)), .inl (SqL.of upd_same), by omega, fun le He ele nle hle => ?_⟩
    obtain ⟨G13, e13, W13, hle13, _⟩ := W12.newt ele nle hle
    have ha13 := e13 _ _ ha12
    have e013 := (e3.trans (e9.trans e10)).trans ((Ex.new g12).trans e13)
    refine gName_go ?_
    dsimp only
    refine ts_splitR (t := tIfS _ _ _) (fun σ' H' => ∃ (le : Addr) (xs : List Str) (G' : Hp), σ' = [some (.ref w), some (.int (n : Int)), some (.str z), some (.str ring), some (.ref fa), some (.ref le), none] ∧ Ex G13 G' ∧ Wt w (c + 90) G' H' ∧ G' le = some (.lst (xs.map V.str)) ∧ (∀ x ∈ xs, Stp n x) ∧ xs ≠ [] ∧ xs.length ≤ 12) (fun D' rtD hD' => ?_) ?_
    · have mst : ∀ x ∈ minus st (st.take ck), Stp n x := fun x hx => rs x (minus_mem.mp hx).1
      have ml := minus_len st (st.take ck)
      refine ⟨_, rfl, s0, fun np2 nnp => ⟨strsL (minus st (st.take ck)), .list [], dpL (SqL.of (Ex.new nnp _ _ (W13.e _ _ hle13))), .lst (SqL.of upd_same) .nil, shapedL (fun x hx => (mst x hx).1), rfl, _, rfl, ?_⟩⟩
      have W14 := W13.new (o := .lst []) nnp
      have g14 := W13.free nnp
      by_cases h0 : minus st (st.take ck) = []
      · rw [h0]
        refine iteT ⟨_, rfl, _, rfl, fa, _, rfl, SqL.of (W14.e _ _ (Ex.new g14 _ _ ha13)), fun p5 np5 => ?_⟩
        have e1 : cutV (st.map V.str) none (some 1) = (st.take 1).map V.str := by
          rw [show (1 : Int) = ((1 : Nat) : Int) from rfl, cutV_to, List.map_take]
        rw [e1]
        refine hD' _ _ ⟨p5, st.take 1, _, rfl, (Ex.new g14).trans (Ex.new (W14.free np5)), (W14.new np5).up (by omega), upd_same, fun x hx => rs x (List.mem_of_mem_take hx), fun h => ?_, by rw [List.length_take]; omega⟩
        have := congrArg List.length h
        rw [List.length_take] at this
        have z0 : ([] : List Str).length = 0 := rfl
        omega
      · rw [show PyData.eqv (strsL (minus st (st.take ck))) (.list []) = false by
          cases hm : minus st (st.take ck) with
          | nil => exact absurd hm h0
          | cons x l => rfl]
        exact iteF (hD' _ _ ⟨le, minus st (st.take ck), _, rfl, Ex.new g14, W14.up (by omega), Ex.new g14 _ _ hle13, mst, h0, by omega⟩)
    rintro σ' H14 ⟨le, xs, G14, rfl, e14, W14, hle14, hxs, xne, xl⟩
    refine ⟨_, rfl, _, rfl, .inl ⟨le, xs, rfl, SqL.of (W14.e _ _ hle14), by omega, fun d Hd ed nd hd => ?_⟩⟩
    have dl := ded_le xs
    refine ⟨d, _, ded xs, rfl, .inl hd, fkv_keys _ _, by omega, fun sp nsp => ⟨sp, _, rfl, .inl ⟨SqL.of upd_same, fun tt ntt => ⟨s2, fun b nb => ?_⟩⟩⟩⟩
    obtain ⟨G15, e15, W15, _⟩ := W14.ex ed
    have W16 := W15.new (o := .lst ((sortS (ded xs)).map V.str)) nsp
    have W17 := W16.new (o := .tup ((sortS (ded xs)).map V.str)) ntt
    have W18 := W17.new (o := .tup [.int (n : Int), .ref tt]) nb
    have g16 := W15.free nsp
    have g17 := W16.free ntt
    have g18 := W17.free nb
    have x18 := Ex.new (o := .tup [.int (n : Int), .ref tt]) g18
    refine q b n (sortS (ded xs)) _ _ ((e013.trans e14).trans (e15.trans ((Ex.new g16).trans ((Ex.new g17).trans x18)))) (W18.up (by omega)) (bookDp (SqT.of upd_same) (SqT.of (x18 _ _ upd_same))) ⟨hn2, hn6, ⟨fun x hx => hxs x (ded_mem.mp (sortS_mem.mp hx)), sortS_asc (ded_nd _)⟩, fun h => ?_, by rw [sortS_len]; omega⟩ (by rw [sortS_len]; omega)
    obtain ⟨x, hx⟩ := List.exists_mem_of_ne_nil _ xne
    have h3 := sortS_mem.mpr (ded_mem.mpr hx)
    rw [h] at h3
    exact List.not_mem_nil h3
theorem tameFew (ws : List Str) : tame (fewD ws) = true ∧ wide (fewD ws) ≤ 400 ∧ (fewD ws).depth = 0 := by
  have h : fewD ws = .none ∨ ∃ k : Nat, fewD ws = .int k ∧ k ≤ 2 := by
    unfold fewD fewN
    split
    · rename_i k hk
      refine .inr ⟨k, rfl, ?_⟩
      split at hk
      · cases hk; omega
      split at hk
      · cases hk; omega
      split at hk
      · cases hk; omega
      · cases hk
    · exact .inl rfl
  rcases h with h | ⟨k, h, hk⟩
  · rw [h]
    exact ⟨rfl, by show 4 ≤ 400; omega, rfl⟩
  · rw [h]
    exact ⟨decide_eq_true (by show (k : Int).natAbs < 2 ^ 200; omega), by show 300 ≤ 400; omega, rfl⟩
theorem shwFew (ws : List Str) : Shw (fewD ws) := by
  obtain ⟨h1, h2, h3⟩ := tameFew ws
  exact shw_of h1 (by omega) (sz_of (by omega))
theorem shwFew2 (ws : List Str) : Shw (.list [fewD ws, fewD ws]) := by
  obtain ⟨h1, h2, h3⟩ := tameFew ws
  refine shw_of ?_ ?_ (sz_of ?_)
  · show (tame (fewD ws) && (tame (fewD ws) && true)) = true
    rw [h1]
    rfl
  · show max (fewD ws).depth (max (fewD ws).depth 0) + 1 ≤ 60
    omega
  · show (wide (fewD ws) + 2 + (wide (fewD ws) + 2 + 0)) + 4 ≤ 1000000
    omega
def sp_law_torn_right (K : PySem.W.Frag) : Sp := fun vs H Q _ => ∃ (w : Addr) (c : Nat) (G : Hp), vs = [.ref w] ∧ c ≤ 1000 ∧ Wt w c G H ∧ ∀ (G' H' : Hp), Ex G G' → Wt w (c + 200) G' H' → Q (.bl true) H'
theorem ok_law_torn_right (T : Tx K mg) : Ok P w K mg base CX0 8 "_law_torn_right" ["well"] (sp_law_torn_right K) := by
  refine T.d_law_torn_right.ok sc_law_torn_right (fun vs H Q E h => ?_) (fun f cdv A outer s H vs Q E hG hr h => ?_)
  · obtain ⟨w, c, G, rfl, _⟩ := h
    rfl
  · obtain ⟨w, c, G, rfl, hc, W, q⟩ := h
    refine ⟨_, (pss_cons (ps_set (i := 1) sc_law_torn_right.nd rfl (Or.inl rfl) (pe_callO (ok_law_torn_book T) hG (hr.mono (by decide)) (pa_cons (pv 0) pa_nil))) (pss_cons (ps_set (i := 2) sc_law_torn_right.nd rfl (Or.inl rfl) (pe_callO (ok_law_joins T) hG (hr.mono (by decide)) (pa_cons (pv 1) pa_nil))) (pss_cons (ps_set (i := 3) sc_law_torn_right.nd rfl (Or.inl rfl) (pe_ifExp (pt_cmpR op_isN (pv 2) pe_non (nomark _)) pe_non (pe_callB (call_lenK (K := K)) (by rfl) T.b_len PySem.boot_len (pa_cons (pv 2) pa_nil)))) (pss_cons (ps_if (PW.pt (pw_or (pt_cmpR op_ne (pe_callB (cr_reprK (K := K) hG hr.units) (by rfl) T.b_repr (by decide +kernel) (pa_cons (pe_lst (pa_cons (pe_callO (ok_least_join T) hG (hr.mono (by decide)) (pa_cons (pv 1) pa_nil)) (pa_cons (pe_callKO (ok_least_join T) T.k_least_join_book hG (hr.mono (by decide)) (pk_cons (pv 1) pk_nil)) pa_nil))) pa_nil)) (pe_callB (cr_reprK (K := K) hG hr.units) (by rfl) T.b_repr (by decide +kernel) (pa_cons (pe_op op_rep (pe_lst (pa_cons (pv 3) pa_nil)) pe_int) pa_nil)) (nomark _)) (pw_or1 (pt_not (pt_val (pe_callO (ok_law_joined_right T) hG (hr.mono (by decide)) (pa_cons (pv 0) (pa_cons (pv 1) pa_nil)))))))) (pss_one (ps_ret pe_bl)) pss_nil) (pss_cons (ps_if (PW.pt (pw_or (pt_cmpR op_isN (pv 2) pe_non (nomark _)) (pw_or1 (pt_cmpR (op_eqDK (K := K) hr.units) (pv 2) (pe_tup pa_nil) (nomark _))))) (pss_one (ps_ret pe_bl)) pss_nil) (pss_cons (ps_set (i := 4) sc_law_torn_right.nd rfl (Or.inr rfl) (pe_callO (ok_joined T) hG (hr.mono (by decide)) (pa_cons (pv 1) (pa_cons (pv 2) pa_nil)))) (pss_cons (ps_if (PW.pt (pw_or (pt_cmpR op_ne (pe_callB (cr_reprK (K := K) hG hr.units) (by rfl) T.b_repr (by decide +kernel) (pa_cons (pv 4) pa_nil)) (pe_callB (cr_reprK (K := K) hG hr.units) (by rfl) T.b_repr (by decide +kernel) (pa_cons (pe_tup (pa_cons (pe_ix (ix_tupK (K := K)) (pv 1) pe_int (fun _ _ => rfl)) (pa_cons (pe_callTy (call_tupleK (K := K)) (by rfl) T.b_tuple (by decide +kernel) (pa_cons (pe_callB (cr_sortTp (K := K) hr.units) (by rfl) T.b_sorted (by decide +kernel) (pa_cons (pe_op (op_catAK (K := K)) (pe_ix (ix_tupK (K := K)) (pv 1) pe_int (fun _ _ => rfl)) (pv 2)) pa_nil)) pa_nil)) pa_nil))) pa_nil)) (nomark _)) (pw_or1 (pt_cmpR op_ne (pe_callB (cr_reprK (K := K) hG hr.units) (by rfl) T.b_repr (by decide +kernel) (pa_cons (pe_callO (ok_least_join T) hG (hr.mono (by decide)) (pa_cons (pv 4) pa_nil)) pa_nil)) pe_str (nomark _))))) (pss_one (ps_ret pe_bl)) pss_nil) (pss_cons (ps_set (i := 5) sc_law_torn_right.nd rfl (Or.inr rfl) (pe_lc (own := [("window", 6)]) (g := gName 6) rfl sc_law_torn_right.nd (pi_tupK (K := K) (pe_ix (ix_tupK (K := K)) (pv 4) pe_int (fun _ _ => rfl))) (blkOk_by (own := [("window", 6)]) (N := n_law_torn_right) (sc := defScope s_law_torn_right) (by decide +kernel)) (fun _ _ _ _ _ => pg_name (i := 6) sc_law_torn_right.nd rfl (Or.inl rfl)) (fun _ _ _ _ _ => pts_one (pt_not (pt_val (pe_callO (ok_law_hangs T) hG (hr.mono (by decide)) (pa_cons (pe_callO (ok_law_without T) hG (hr.mono (by decide)) (pa_cons (pe_ix (ix_tupK (K := K)) (pv 4) pe_int (fun _ _ => rfl)) (pa_cons (pe_tup (pa_cons (pv 6) pa_nil)) pa_nil))) pa_nil))))) (fun _ _ _ _ _ => (pv 6)))) (pss_one (ps_ret (pe_and (pe_cmpR op_eq (pe_callB (cr_reprK (K := K) hG hr.units) (by rfl) T.b_repr (by decide +kernel) (pa_cons (pe_callO (ok_needed T) hG (hr.mono (by decide)) (pa_cons (pv 4) pa_nil)) pa_nil)) (pe_callB (cr_reprK (K := K) hG hr.units) (by rfl) T.b_repr (by decide +kernel) (pa_cons (pv 5) pa_nil)) (nomark _)) (pe_one (pe_callB (cr_allK (K := K) rfl) (by rfl) T.b_all (by decide +kernel) (pa_cons (pe_lc (own := [("window", 6)]) (g := gName 6) (tt := tYes) rfl sc_law_torn_right.nd (pi_tupK (K := K) (pv 2)) (blkOk_by (own := [("window", 6)]) (N := n_law_torn_right) (sc := defScope s_law_torn_right) (by decide +kernel)) (fun _ _ _ _ _ => pg_name (i := 6) sc_law_torn_right.nd rfl (Or.inl rfl)) (fun _ _ _ _ _ => pts_nil) (fun _ _ _ _ _ => (pe_cmpR (op_inK (K := K)) (pv 6) (pv 5) (by rfl)))) pa_nil)))))))))))))), ?_⟩
    have s0 : 0 ≤ sizeLine := sz_of (by omega)
    have s1 : 1 ≤ sizeLine := sz_of (by omega)
    have s2 : 2 ≤ sizeLine := sz_of (by omega)
    refine ⟨_, rfl, w, c, G, rfl, by omega, W, fun b n ws G1 H1 e1 W1 hBG B l12 => ?_⟩
    have hi6 := B.hi
    have hB1 := dp_ex W1.e hBG
    refine ⟨_, rfl, .ref b, n, ws, rfl, hB1, B, fun u H2 o e2 J hu => ?_⟩
    refine gName_go ?_
    dsimp only
    refine ts_splitR (t := tAsg _ _) (fun σ' H' => ∃ v3, σ' = [some (.ref w), some (.ref b), some u, some v3, none, none, none] ∧ Ex H2 H' ∧ Dp K H' v3 (fewD ws)) (fun D' rtD hD' => ?_) ?_
    · have jf := J.few
      cases o with
      | none =>
        obtain rfl := dp_non hu
        refine ⟨_, rfl, rfl, _, rfl, ?_⟩
        rw [decide_eq_true (rfl : V.non = V.non)]
        refine iteT (hD' _ _ ⟨_, rfl, Ex.refl _, ?_⟩)
        rw [fewD_none jf]
        exact .non
      | some l =>
        obtain ⟨ul, rfl, hul⟩ := dp_strsT hu
        refine ⟨_, rfl, rfl, _, rfl, ?_⟩
        rw [decide_eq_false (show ¬ V.ref ul = V.non from fun z => nomatch z)]
        refine iteF ⟨_, rfl, ul, _, rfl, .inr hul, hD' _ _ ⟨_, rfl, Ex.refl _, ?_⟩⟩
        rw [fewD_some jf, List.length_map]
        exact .int _
    rintro σ' H3 ⟨v3, rfl, e3, hv3⟩
    have e13 := e2.trans e3
    have hB3 := dp_ex e13 hB1
    -- the fewest
    refine ⟨_, rfl, .ref b, n, ws, rfl, hB3, B, fun v4 H4 e4 hv4 => ⟨_, rfl, rfl, .ref b, n, ws, rfl, dp_ex e4 hB3, B, fun v5 H5 e5 hv5 => ⟨s2, fun p6 np6 => ?_⟩⟩⟩
    have e6 := Ex.new (o := .lst [v4, v5]) np6
    refine ⟨.ref p6, .list [fewD ws, fewD ws], rfl, .lst (SqL.of upd_same) (.cons (dp_ex (e5.trans e6) hv4) (.cons (dp_ex e6 hv5) .nil)), shwFew2 ws, ?_⟩
    refine ⟨_, rfl, s1, fun p8 np8 => ⟨p8, 2, [v3], rfl, rfl, upd_same, by decide, by decide, s2, fun p9 np9 => ?_⟩⟩
    have e8 := Ex.new (o := .lst [v3]) np8
    have e9 := Ex.new (o := .lst (List.replicate (2 : Int).toNat [v3]).flatten) np9
    have e39 := (e4.trans e5).trans (e6.trans (e8.trans e9))
    have hv3b := dp_ex e39 hv3
    refine ⟨.ref p9, .list [fewD ws, fewD ws], rfl, .lst (SqL.of (by rw [upd_same]; rfl)) (.cons hv3b (.cons hv3b .nil)), shwFew2 ws, rfl, _, rfl, ?_⟩
    rw [decide_eq_true rfl]
    have e19 := e13.trans e39
    generalize upd (upd (upd H5 p6 (.lst [v4, v5])) p8 (.lst [v3])) p9 (.lst (List.replicate (2 : Int).toNat [v3]).flatten) = H9 at e19 e39
    obtain ⟨G9, eg9, W9, hG9⟩ := W1.ex e19
    have hBG9 := dp_ex eg9 hBG
    obtain ⟨wg, wm, wk, hwk, hWw⟩ := W1.h
    have hu9 : Dp K G9 u (optD o) := by
      rw [hG9]
      refine dp_hideT (e19 _ _ hWw) ?_ (dp_ex (e3.trans e39) hu)
      cases o with
      | none => rfl
      | some l => exact topT l
    refine iteF ⟨_, rfl, _, rfl, w, .ref b, n, c + 100, ws, G9, rfl, by omega, W9, hBG9, B, by omega, fun G10 H10 eg10 W10 => ⟨_, rfl, iteF ?_⟩⟩
    have W10 := W10.up (show c + 100 + 100 ≤ c + 200 by omega)
    have hB10 := dp_ex (eg10.trans W10.e) hBG9
    have hu10 := dp_ex (eg10.trans W10.e) hu9
    have e010 := e1.trans (eg9.trans eg10)
    have fin : ∀ Hn, Ex H10 Hn → Q (.bl true) Hn := fun Hn en => by
      obtain ⟨Gn, egn, Wn, _⟩ := W10.ex en
      exact q _ _ (e010.trans egn) Wn
    cases o with
    | none =>
      obtain rfl := dp_non hu10
      refine ⟨_, rfl, rfl, _, rfl, ?_⟩
      rw [decide_eq_true (rfl : V.non = V.non)]
      exact iteT (fin _ (Ex.refl _))
    | some l =>
      obtain ⟨ul, rfl, hul⟩ := dp_strsT hu10
      obtain ⟨jw, jn, jl, jh, jg⟩ := J.whole B
      refine ⟨_, rfl, rfl, _, rfl, ?_⟩
      rw [decide_eq_false (show ¬ V.ref ul = V.non from fun z => nomatch z)]
      refine iteF ⟨_, rfl, s0, fun p np => ⟨strsT l, .tuple [], dpT (ex_t (Ex.new np) hul), .tup (SqT.of upd_same) .nil, shapedT (fun x hx => (jw.1 x hx).1), rfl, _, rfl, ?_⟩⟩
      have e11 := Ex.new (o := .tup []) np
      by_cases h0 : l = []
      · rw [h0]
        exact iteT (fin _ e11)
      rw [show PyData.eqv (strsT l) (.tuple []) = false by
        cases l with
        | nil => exact absurd rfl h0
        | cons x l => rfl]
      have BW := B.join jw jn (by omega)
      have hB11 := dp_ex e11 hB10
      have hul11 := ex_t e11 hul
      refine iteF ⟨_, rfl, _, rfl, .ref b, .ref ul, n, ws, l, rfl, hB11, dpT hul11, B, jw, jn, by omega, fun v4 H12 e12 hv4 => ?_⟩
      have hB12 := dp_ex e12 hB11
      have hul12 := ex_t e12 hul11
      obtain ⟨bk2, t2, eqb, hb2, ht2⟩ := dp_book hB12
      cases eqb
      have shwW := shwBook (n := n) (by omega) BW.ws
      refine ⟨_, rfl, v4, _, rfl, hv4, shwW, _, rfl, _, _, _, _, rfl, rfl, hb2, atI_of (j := 0) rfl rfl, _, rfl, _, _, _, _, rfl, rfl, hb2, atI_of (j := 1) rfl rfl, _, rfl, cat_strs ht2 hul12 (by omega) fun c3 H13 e13 hc3 => ?_⟩
      refine ⟨c3, ws ++ l, rfl, hc3, by rw [List.length_append]; omega, fun p2 np2 => ⟨p2, _, rfl, .inl ⟨SqL.of upd_same, fun tt ntt => ⟨s2, fun bb nbb => ?_⟩⟩⟩⟩
      have x1 := Ex.new (o := .lst ((sortS (ws ++ l)).map V.str)) np2
      have x2 := Ex.new (o := .tup ((sortS (ws ++ l)).map V.str)) ntt
      have x3 := Ex.new (o := .tup [.int (n : Int), .ref tt]) nbb
      refine ⟨.ref bb, _, rfl, bookDp (SqT.of upd_same) (SqT.of (x3 _ _ upd_same)), shwW, rfl, _, rfl, ?_⟩
      rw [decide_eq_true rfl]
      have e1216 := e13.trans ((x1.trans x2).trans x3)
      generalize upd (upd (upd H13 p2 (.lst ((sortS (ws ++ l)).map V.str))) tt (.tup ((sortS (ws ++ l)).map V.str))) bb (.tup [.int (n : Int), .ref tt]) = H16 at e1216
      have hv16 := dp_ex e1216 hv4
      refine iteF ⟨_, rfl, v4, n, _, rfl, hv16, BW, fun v6 H17 e17 hv6 => ⟨v6, _, rfl, hv6, shwFew _, rfl, _, rfl, ?_⟩⟩
      have f0 : fewD (sortS (ws ++ l)) = .int ((0 : Nat) : Int) := fewD_some (by unfold fewN; rw [if_pos jh])
      rw [decide_eq_true (show V.str (fewD (sortS (ws ++ l))).shown = V.str "0" by rw [f0]; decide +kernel)]
      have hv17 := dp_ex e17 hv16
      obtain ⟨bw, tw, eqw, hbw, htw⟩ := dp_book hv17
      cases eqw
      have e017 : Ex H10 H17 := e11.trans (e12.trans (e1216.trans e17))
      have hul17 := ex_t e017 hul
      have fewW := BW.few
      have hN : Ws (neededL (sortS (ws ++ l))) := ⟨fun x hx => BW.ws.wd x (List.mem_filter.mp hx).1, Nat.le_trans (List.length_filter_le ..) BW.ws.few⟩
      refine iteF ⟨_, rfl, _, _, _, _, rfl, rfl, hbw, atI_of (j := 1) rfl rfl, tw, rfl, ⟨_, htw⟩, fun D nD => ?_⟩
      generalize hWs : sortS (ws ++ l) = us at *
      refine lcs_tp htw (fun x => !scB (minus us [x])) PyData.str nD (by omega) (fun _ _ => rfl) (fun z H18 Y Z hz e18 hy hn => ?_) (fun H18 acc e18 hD ha => ?_)
      · refine ⟨rfl, _, rfl, _, _, _, _, rfl, rfl, ex_t e18 hbw, atI_of (j := 1) rfl rfl, _, rfl, s1, fun p np2 => ⟨tw, p, us, [z], rfl, .inr (ex_t (e18.trans (Ex.new np2)) htw), .inr (SqT.of upd_same), by omega, fun m H19 e19 nm hm => ⟨m, minus us [z], rfl, .inl (SqL.of hm), BW.ws.minus, fun c H20 e20 hc => ?_⟩⟩⟩
        obtain rfl := dp_bl hc
        refine ⟨_, rfl, ?_⟩
        have ex := ((Ex.new (o := .tup [.str z]) np2).trans e19).trans e20
        cases hb2 : scB (minus us [z]) with
        | true => exact iteF (hn (by show (!scB (minus us [z])) = false; rw [hb2]; rfl) _ ex)
        | false => exact iteT ⟨_, rfl, hy (by show (!scB (minus us [z])) = true; rw [hb2]; rfl) _ _ ex (.str z)⟩
      have ha := strs_dpa ha
      subst ha
      have hDl : H18 D = some (.lst ((neededL us).map V.str)) := hD
      refine ⟨_, rfl, .ref bw, n, us, rfl, dp_ex e18 hv17, BW, jh, fun fa H19 e19 nfa hfa => ?_⟩
      refine ⟨.ref fa, strsL (neededL us), rfl, dpL (SqL.of hfa), shwL hN, _, rfl, .ref D, strsL (neededL us), rfl, dpL (SqL.of (e19 _ _ hDl)), shwL hN, rfl, ?_⟩
      rw [decide_eq_true rfl]
      have e1719 := e18.trans e19
      refine ⟨_, rfl, iteT ⟨_, rfl, ul, rfl, ⟨_, ex_t e1719 hul17⟩, fun D2 nD2 => ?_⟩⟩
      refine lcs_tp (ex_t e1719 hul17) (fun _ => true) (fun _ => PyData.bool true) nD2 (by omega) (fun _ _ => rfl) (fun z H20 Y Z hz e20 hy hn => ?_) (fun H20 acc e20 hD2 ha2 => ?_)
      · refine ⟨rfl, lc_yes ⟨_, rfl, _, rfl, _, _, rfl, .inl (SqL.of ((e19.trans e20) _ _ hDl)), rfl, flat_strs _, ?_⟩⟩
        have zin : z ∈ neededL us := by
          refine List.mem_filter.mpr ⟨?_, ?_⟩
          · rw [← hWs]
            exact sortS_mem.mpr (List.mem_append_right _ hz)
          · rw [scB_false (jg z hz)]
            rfl
        show Y (.bl (inV (V.str z) ((neededL us).map V.str))) H20
        rw [inV_strs, decide_eq_true zin]
        exact hy rfl _ _ (Ex.refl _) (.bl true)
      · rw [filter_true] at ha2
        have ha2 := bls_all ha2
        subst ha2
        refine ⟨_, _, rfl, SqL.of hD2, ?_⟩
        rw [show ((l.map fun _ => true).all id) = true by rw [List.all_map]; exact List.all_eq_true.mpr fun _ _ => rfl]
        exact fin _ ((e017.trans e1719).trans e20)
end

/-! ### a wide book; the law -/
theorem cut_last2 (x : Str) (h : 2 ≤ x.length) : (cutS x (some (-2)) none).length = 2 := by
  have e1 : HT.sIx x.length 0 (some (-2)) = x.length - 2 := by
    show (if (-2 : Int) < 0 then ((-2 : Int) + (x.length : Int)).toNat else min (-2 : Int).toNat x.length) = _
    rw [if_pos (by decide)]
    omega
  have e2 : HT.sIx x.length x.length none = x.length := rfl
  show (((sg x).drop (HT.sIx x.length 0 (some (-2)))).take (HT.sIx x.length x.length none - HT.sIx x.length 0 (some (-2)))).length = 2
  rw [e1, e2, List.length_take, List.length_drop, ← len_sg]
  omega
theorem cut_first2 (x : Str) (h : 2 ≤ x.length) : (cutS x none (some 2)).length = 2 := by
  have e1 : HT.sIx x.length 0 none = 0 := rfl
  have e2 : HT.sIx x.length x.length (some ((2 : Nat) : Int)) = min 2 x.length := HT.sIx_nat _ _ _
  show (((sg x).drop (HT.sIx x.length 0 none)).take (HT.sIx x.length x.length (some ((2 : Nat) : Int)) - HT.sIx x.length 0 none)).length = 2
  rw [e1, e2, List.length_take, List.length_drop, ← len_sg]
  omega
theorem few_atom {K : PySem.W.Frag} {H : Hp} {v : V} {ws : List Str} (h : Dp K H v (fewD ws)) (H' : Hp) : Dp K H' v (fewD ws) := by
  unfold fewD at *
  split at h
  · obtain rfl := dp_int h
    exact .int _
  · obtain rfl := dp_non h
    exact .non
section
variable {P : Program} {w : World} {K : PySem.W.Frag} {mg : Str → Option Value} {base : Heap}
def sp_law_wide_right (K : PySem.W.Frag) : Sp := fun vs H Q _ => ∃ (w : Addr) (c : Nat) (G : Hp), vs = [.ref w] ∧ c ≤ 1000 ∧ Wt w c G H ∧ ∀ (G' H' : Hp), Ex G G' → Wt w (c + 2000) G' H' → Q (.bl true) H'
theorem ok_law_wide_right (T : Tx K mg) : Ok P w K mg base CX0 8 "_law_wide_right" ["well"] (sp_law_wide_right K) := by
  refine T.d_law_wide_right.ok sc_law_wide_right (fun vs H Q E h => ?_) (fun f cdv A outer s H vs Q E hG hr h => ?_)
  · obtain ⟨w, c, G, rfl, _⟩ := h
    rfl
  · obtain ⟨w, c, G, rfl, hc, W, q⟩ := h
    refine ⟨_, (pss_cons (ps_set (i := 1) sc_law_wide_right.nd rfl (Or.inl rfl) (pe_callO (ok_law_parted_book T) hG (hr.mono (by decide)) (pa_cons (pv 0) (pa_cons (pe_callO (ok_law_one_of T) hG (hr.mono (by decide)) (pa_cons (pv 0) (pa_cons (pe_lst (pa_cons pe_int (pa_cons pe_int pa_nil))) pa_nil))) pa_nil)))) (pss_cons (ps_if (pt_cmpR op_eq (pe_callO (ok_law_pick T) hG (hr.mono (by decide)) (pa_cons (pv 0) (pa_cons pe_int pa_nil))) pe_int (nomark _)) (pss_cons (ps_set (i := 2) sc_law_wide_right.nd rfl (Or.inl rfl) (pe_op op_cat (pe_lc (own := [("window", 5)]) (g := gName 5) (tt := tYes) rfl sc_law_wide_right.nd (pi_tupK (K := K) (pe_ix (ix_tupK (K := K)) (pv 1) pe_int (fun _ _ => rfl))) (blkOk_by (own := [("window", 5)]) (N := n_law_wide_right) (sc := defScope s_law_wide_right) (by decide +kernel)) (fun _ _ _ _ _ => pg_name (i := 5) sc_law_wide_right.nd rfl (Or.inl rfl)) (fun _ _ _ _ _ => pts_nil) (fun _ _ _ _ _ => (pe_slice sl_str (pv 5) po_none (po_some pe_int)))) (pe_lc (own := [("window", 5)]) (g := gName 5) (tt := tYes) rfl sc_law_wide_right.nd (pi_tupK (K := K) (pe_ix (ix_tupK (K := K)) (pv 1) pe_int (fun _ _ => rfl))) (blkOk_by (own := [("window", 5)]) (N := n_law_wide_right) (sc := defScope s_law_wide_right) (by decide +kernel)) (fun _ _ _ _ _ => pg_name (i := 5) sc_law_wide_right.nd rfl (Or.inl rfl)) (fun _ _ _ _ _ => pts_nil) (fun _ _ _ _ _ => (pe_slice sl_str (pv 5) (po_some (pe_un un_neg pe_int)) po_none))))) (pss_one (ps_set (i := 1) sc_law_wide_right.nd rfl (Or.inl rfl) (pe_tup (pa_cons pe_int (pa_cons (pe_callTy (call_tupleK (K := K)) (by rfl) T.b_tuple (by decide +kernel) (pa_cons (pe_callB (cr_sortDct (K := K) rfl hr.units) (by rfl) T.b_sorted (by decide +kernel) (pa_cons (pe_callO (ok_law_tally T) hG (hr.mono (by decide)) (pa_cons (pv 2) pa_nil)) pa_nil)) pa_nil)) pa_nil)))))) pss_nil) (pss_cons (ps_set (i := 3) sc_law_wide_right.nd rfl (Or.inl rfl) (pe_callB (call_max2 rfl) (by rfl) T.b_max (by decide +kernel) (pa_cons (pe_ix (ix_tupK (K := K)) (pe_callO (ok_law_ends T) hG (hr.mono (by decide)) (pa_cons (pe_ix (ix_tupK (K := K)) (pv 1) pe_int (fun _ _ => rfl)) pa_nil)) pe_int (fun _ _ => rfl)) (pa_cons (pe_ix (ix_tupK (K := K)) (pe_callO (ok_law_ends T) hG (hr.mono (by decide)) (pa_cons (pe_lc (own := [("window", 5)]) (g := gName 5) (tt := tYes) rfl sc_law_wide_right.nd (pi_tupK (K := K) (pe_ix (ix_tupK (K := K)) (pv 1) pe_int (fun _ _ => rfl))) (blkOk_by (own := [("window", 5)]) (N := n_law_wide_right) (sc := defScope s_law_wide_right) (by decide +kernel)) (fun _ _ _ _ _ => pg_name (i := 5) sc_law_wide_right.nd rfl (Or.inl rfl)) (fun _ _ _ _ _ => pts_nil) (fun _ _ _ _ _ => (pe_revS (pv 5)))) pa_nil)) pe_int (fun _ _ => rfl)) pa_nil)))) (pss_cons (ps_set (i := 4) sc_law_wide_right.nd rfl (Or.inl rfl) (pe_lst (pa_cons (pe_callO (ok_least_join T) hG (hr.mono (by decide)) (pa_cons (pv 1) pa_nil)) (pa_cons (pe_callKO (ok_least_join T) T.k_least_join_book hG (hr.mono (by decide)) (pk_cons (pv 1) pk_nil)) pa_nil)))) (pss_cons (ps_if (pt_not (pt_val (pe_callO (ok_law_joined_right T) hG (hr.mono (by decide)) (pa_cons (pv 0) (pa_cons (pv 1) pa_nil))))) (pss_one (ps_ret pe_bl)) pss_nil) (pss_cons (ps_if (pt_cmpR op_gt (pv 3) pe_int (nomark _)) (pss_one (ps_ret (pe_cmpR op_eq (pe_callB (cr_reprK (K := K) hG hr.units) (by rfl) T.b_repr (by decide +kernel) (pa_cons (pv 4) pa_nil)) (pe_callB (cr_reprK (K := K) hG hr.units) (by rfl) T.b_repr (by decide +kernel) (pa_cons (pe_op op_rep (pe_lst (pa_cons pe_non pa_nil)) pe_int) pa_nil)) (nomark _)))) pss_nil) (pss_cons (ps_if (PW.pt (pw_or (pt_cmpR op_eq (pv 3) pe_int (nomark _)) (pw_or1 (pt_cmpR op_eq (pe_ix (ix_tupK (K := K)) (pv 1) pe_int (fun _ _ => rfl)) pe_int (nomark _))))) (pss_one (ps_ret (pe_cmpR op_eq (pe_callB (cr_reprK (K := K) hG hr.units) (by rfl) T.b_repr (by decide +kernel) (pa_cons (pv 4) pa_nil)) (pe_callB (cr_reprK (K := K) hG hr.units) (by rfl) T.b_repr (by decide +kernel) (pa_cons (pe_op op_rep (pe_lst (pa_cons (pv 3) pa_nil)) pe_int) pa_nil)) (nomark _)))) pss_nil) (pss_one (ps_ret (pe_and (pe_cmpR op_eq (pe_callB (cr_reprK (K := K) hG hr.units) (by rfl) T.b_repr (by decide +kernel) (pa_cons (pe_ix (ix_listK (K := K)) (pv 4) pe_int (fun _ _ => rfl)) pa_nil)) (pe_callB (cr_reprK (K := K) hG hr.units) (by rfl) T.b_repr (by decide +kernel) (pa_cons (pe_ix (ix_listK (K := K)) (pv 4) pe_int (fun _ _ => rfl)) pa_nil)) (nomark _)) (pe_one (pe_callO (ok_law_few_right T) hG (hr.mono (by decide)) (pa_cons (pv 1) (pa_cons (pv 3) (pa_cons (pe_callB (cr_reprK (K := K) hG hr.units) (by rfl) T.b_repr (by decide +kernel) (pa_cons (pe_ix (ix_listK (K := K)) (pv 4) pe_int (fun _ _ => rfl)) pa_nil)) pa_nil))))))))))))))), ?_⟩
    have s0 : 0 ≤ sizeLine := sz_of (by omega)
    have s1 : 1 ≤ sizeLine := sz_of (by omega)
    have s2 : 2 ≤ sizeLine := sz_of (by omega)
    refine ⟨_, rfl, _, rfl, s2, fun p np => ⟨w, .ref p, 2, c, upd G p _, rfl, by omega, by omega, by omega, W.new np, .inr ⟨p, _, rfl, .inl (SqL.of upd_same), rfl, fun v H1 hv W1 => ?_⟩⟩⟩
    have e1 := Ex.new (o := .lst [.int 16, .int 35]) (W.free np)
    obtain ⟨most, rfl, m16, m35⟩ : ∃ m : Nat, v = .int m ∧ 16 ≤ m ∧ m ≤ 35 := by
      simp only [List.mem_cons, List.mem_nil_iff, or_false] at hv
      rcases hv with rfl | rfl
      · exact ⟨16, rfl, by omega, by omega⟩
      · exact ⟨35, rfl, by omega, by omega⟩
    refine ⟨w, most, c + 1, _, rfl, m16, by omega, by omega, W1, fun b0 n0 ws0 G2 H2 e2 W2 hB0 B0 l0 => ?_⟩
    refine gName_go ?_
    dsimp only
    have W2 := W2.up (show c + 1 + 1000 ≤ c + 1100 by omega)
    refine ts_splitR (t := tIfS _ _ _) (fun σ' H' => ∃ (b : Addr) (n : Nat) (ws : List Str) (G' : Hp) (x2 : Option V), σ' = [some (.ref w), some (.ref b), x2, none, none, none] ∧ Ex G2 G' ∧ Wt w (c + 1200) G' H' ∧ Dp K G' (.ref b) (bookD n ws) ∧ Bk n ws ∧ ws.length ≤ 70) (fun D' rtD hD' => ?_) ?_
    · refine ⟨_, rfl, w, 2, c + 1100, G2, rfl, by omega, by omega, by omega, W2, fun i H3 hi W3 => ⟨rfl, _, rfl, ?_⟩⟩
      by_cases h0 : V.int (i : Int) = V.int 0
      · rw [decide_eq_true h0]
        have lo0 := B0.lo
        obtain ⟨bk, t, eqb, hbG, htG⟩ := dp_book hB0
        cases eqb
        have hb := ex_t W3.e hbG
        have ht := ex_t W3.e htG
        refine iteT ⟨_, rfl, _, _, _, _, rfl, rfl, hb, atI_of (j := 1) rfl rfl, t, rfl, ⟨_, ht⟩, fun D nD => ?_⟩
        refine lcs_tp ht (fun _ => true) (fun x => PyData.str (cutS x none (some 2))) nD (by omega) (fun _ _ => rfl) (fun z H4 Y Z hz e4 hy hn => ?_) (fun H4 acc e4 hD ha => ?_)
        · have zl := (B0.ws.wd z hz).2
          exact ⟨rfl, lc_yes ⟨_, rfl, 2, rfl, z, rfl, sz_of (by omega), hy rfl _ _ (Ex.refl _) (.str _)⟩⟩
        rw [filter_true] at ha
        have ha : acc = (ws0.map fun x => cutS x none (some 2)).map V.str := strs_dpa (by rw [List.map_map]; exact ha)
        subst ha
        have hb4 := ex_t e4 hb
        have ht4 := ex_t e4 ht
        refine ⟨_, rfl, _, _, _, _, rfl, rfl, hb4, atI_of (j := 1) rfl rfl, t, rfl, ⟨_, ht4⟩, fun D2 nD2 => ?_⟩
        refine lcs_tp ht4 (fun _ => true) (fun x => PyData.str (cutS x (some (-2)) none)) nD2 (by omega) (fun _ _ => rfl) (fun z H5 Y Z hz e5 hy hn => ?_) (fun H5 acc e5 hD2 ha => ?_)
        · have zl := (B0.ws.wd z hz).2
          exact ⟨rfl, lc_yes ⟨_, rfl, 2, rfl, _, rfl, z, rfl, sz_of (by omega), hy rfl _ _ (Ex.refl _) (.str _)⟩⟩
        rw [filter_true] at ha
        have ha : acc = (ws0.map fun x => cutS x (some (-2)) none).map V.str := strs_dpa (by rw [List.map_map]; exact ha)
        subst ha
        have two : ∀ x ∈ (ws0.map fun x => cutS x none (some 2)) ++ (ws0.map fun x => cutS x (some (-2)) none), Stp 2 x := fun x hx => by
          rcases List.mem_append.mp hx with hx | hx
          · obtain ⟨y, hy, rfl⟩ := List.mem_map.mp hx
            obtain ⟨h1, h2⟩ := B0.win.1 y hy
            exact ⟨fun a ha => h1 a (cutS_mem ha), cut_first2 y (by omega)⟩
          · obtain ⟨y, hy, rfl⟩ := List.mem_map.mp hx
            obtain ⟨h1, h2⟩ := B0.win.1 y hy
            exact ⟨fun a ha => h1 a (cutS_mem ha), cut_last2 y (by omega)⟩
        have nw : ((ws0.map fun x => cutS x none (some 2)) ++ (ws0.map fun x => cutS x (some (-2)) none)).length ≤ 70 := by
          rw [List.length_append, List.length_map, List.length_map]
          omega
        have nne : (ws0.map fun x => cutS x none (some 2)) ++ (ws0.map fun x => cutS x (some (-2)) none) ≠ [] := fun h => B0.ne (List.map_eq_nil_iff.mp (List.append_eq_nil_iff.mp h).1)
        refine ⟨D, D2, _, _, rfl, rfl, e5 _ _ hD, hD2, sz_of (by simp only [List.length_map]; omega), fun pp npp => ?_⟩
        have hpp : (upd H5 pp (.lst ((ws0.map fun x => cutS x none (some 2)).map V.str ++ (ws0.map fun x => cutS x (some (-2)) none).map V.str))) pp = some (.lst (((ws0.map fun x => cutS x none (some 2)) ++ (ws0.map fun x => cutS x (some (-2)) none)).map V.str)) := by rw [upd_same, List.map_append]
        have e35 := (e4.trans e5).trans (Ex.new (o := .lst ((ws0.map fun x => cutS x none (some 2)).map V.str ++ (ws0.map fun x => cutS x (some (-2)) none).map V.str)) npp)
        generalize upd H5 pp (.lst ((ws0.map fun x => cutS x none (some 2)).map V.str ++ (ws0.map fun x => cutS x (some (-2)) none).map V.str)) = H6 at hpp e35
        generalize (ws0.map fun x => cutS x none (some 2)) ++ (ws0.map fun x => cutS x (some (-2)) none) = xs at hpp two nw nne
        refine ⟨_, rfl, .inl ⟨pp, xs, rfl, SqL.of hpp, by omega, fun d Hd ed nd hd => ?_⟩⟩
        have dl := ded_le xs
        refine ⟨d, _, ded xs, rfl, .inl hd, fkv_keys _ _, by omega, fun sp nsp => ⟨sp, _, rfl, .inl ⟨SqL.of upd_same, fun tt ntt => ⟨s2, fun b nb => ?_⟩⟩⟩⟩
        obtain ⟨G4, eg4, W4, _⟩ := W3.ex (e35.trans ed)
        have W5 := W4.new (o := .lst ((sortS (ded xs)).map V.str)) nsp
        have W6 := W5.new (o := .tup ((sortS (ded xs)).map V.str)) ntt
        have W7 := W6.new (o := .tup [.int 2, .ref tt]) nb
        have g5 := W4.free nsp
        have g6 := W5.free ntt
        have g7 := W6.free nb
        have x7 := Ex.new (o := .tup [.int 2, .ref tt]) g7
        refine hD' _ _ ⟨b, 2, sortS (ded xs), _, _, rfl, eg4.trans ((Ex.new g5).trans ((Ex.new g6).trans x7)), W7.up (by omega), bookDp (SqT.of upd_same) (SqT.of (x7 _ _ upd_same)), ⟨by omega, by omega, ⟨fun x hx => two x (ded_mem.mp (sortS_mem.mp hx)), sortS_asc (ded_nd _)⟩, fun h => ?_, by rw [sortS_len]; omega⟩, by rw [sortS_len]; omega⟩
        obtain ⟨x, hx⟩ := List.exists_mem_of_ne_nil _ nne
        have h3 := sortS_mem.mpr (ded_mem.mpr hx)
        rw [h] at h3
        exact List.not_mem_nil h3
      · rw [decide_eq_false h0]
        exact iteF (hD' _ _ ⟨b0, n0, ws0, G2, _, rfl, Ex.refl _, W3.up (by omega), hB0, B0, by omega⟩)
    rintro σ' H3 ⟨b, n, ws, G3, x2, rfl, e3, W3, hBG, B, l70⟩
    have few := B.few
    have hi6 := B.hi
    have hB3 := dp_ex W3.e hBG
    obtain ⟨bk, t, eqb, hb3, ht3⟩ := dp_book hB3
    cases eqb
    have s70 : ∀ z ∈ ws, z.length ≤ sizeLine := fun z hz => sz_of (by have := (B.ws.wd z hz).2; omega)
    -- the ends
    refine ⟨_, rfl, _, _, _, _, rfl, rfl, hb3, atI_of (j := 1) rfl rfl, t, ws, rfl, .inr ht3, B.ws, fun p1 la1 H4 e4 hp1 _ => ⟨_, _, _, _, rfl, rfl, hp1, atI_of (j := 1) rfl rfl, ?_⟩⟩
    have hb4 := ex_t e4 hb3
    have ht4 := ex_t e4 ht3
    refine ⟨_, rfl, _, _, _, _, rfl, rfl, hb4, atI_of (j := 1) rfl rfl, t, rfl, ⟨_, ht4⟩, fun D nD => ?_⟩
    refine lcs_tp ht4 (fun _ => true) (fun x => PyData.str (revS x)) nD (by omega) (fun _ _ => rfl) (fun z H5 Y Z hz e5 hy hn => ?_) (fun H5 acc e5 hD ha => ?_)
    · exact ⟨rfl, lc_yes ⟨_, rfl, z, rfl, s70 z hz, hy rfl _ _ (Ex.refl _) (.str _)⟩⟩
    rw [filter_true] at ha
    have ha : acc = (revs ws).map V.str := strs_dpa (by rw [List.map_map]; exact ha)
    subst ha
    refine ⟨D, revs ws, rfl, .inl (SqL.of hD), B.ws.revs, fun p2 la2 H6 e6 hp2 _ => ⟨_, _, _, _, rfl, rfl, hp2, atI_of (j := 1) rfl rfl, _, _, rfl, ?_⟩⟩
    have hmax : (if ((endsL (revs ws) : Nat) : Int) > ((endsL ws : Nat) : Int) then ((endsL (revs ws) : Nat) : Int) else ((endsL ws : Nat) : Int)) = ((max (endsL ws) (endsL (revs ws)) : Nat) : Int) := by
      split <;> omega
    have e36 := (e4.trans e5).trans e6
    rw [hmax]
    generalize hme : max (endsL ws) (endsL (revs ws)) = me
    have hB6 := dp_ex e36 hB3
    -- told
    refine ⟨_, rfl, .ref b, n, ws, rfl, hB6, B, fun v4 H7 e7 hv4 => ⟨_, rfl, rfl, .ref b, n, ws, rfl, dp_ex e7 hB6, B, fun v5 H8 e8 hv5 => ⟨s2, fun tl ntl => ?_⟩⟩⟩
    have e9 := Ex.new (o := .lst [v4, v5]) ntl
    have htl9 : (upd H8 tl (.lst [v4, v5])) tl = some (.lst [v4, v5]) := upd_same
    have e39 := e36.trans ((e7.trans e8).trans e9)
    generalize upd H8 tl (.lst [v4, v5]) = H9 at e39 htl9
    obtain ⟨G9, eg9, W9, hG9⟩ := W3.ex e39
    obtain ⟨wg, wm, wk, hwk, hWw⟩ := W3.h
    have tlw : tl ≠ w := (ne_of_none ((e36.trans (e7.trans e8)) _ _ hWw) ntl).symm
    have htlG : G9 tl = some (.lst [v4, v5]) := by
      rw [hG9, hide_ne tlw]
      exact htl9
    refine ⟨_, rfl, _, rfl, w, .ref b, n, c + 1200, ws, G9, rfl, by omega, W9, dp_ex eg9 hBG, B, by omega, fun G10 H10 e10 W10 => ⟨_, rfl, iteF ?_⟩⟩
    have htl := (e10.trans W10.e) _ _ htlG
    have hB10 := dp_ex ((eg9.trans e10).trans W10.e) hBG
    have hv4 := few_atom hv4
    have hv5 := few_atom hv5
    have toldD : ∀ {Hn : Hp}, Ex H10 Hn → Dp K Hn (.ref tl) (.list [fewD ws, fewD ws]) := fun {Hn} en => .lst (SqL.of (en _ _ htl)) (.cons (hv4 _) (.cons (hv5 _) .nil))
    have fin : ∀ Hn, Ex H10 Hn → Q (.bl true) Hn := fun Hn en => by
      obtain ⟨Gn, egn, Wn, _⟩ := W10.ex en
      exact q _ _ ((e1.trans e2).trans (e3.trans ((eg9.trans e10).trans egn))) (Wn.up (by omega))
    have two : ∀ {v : V} {d : PyData} {Hn : Hp}, Ex H10 Hn → (∀ Hm, Dp K Hm v d) → fewD ws = d → ∀ p8, Hn p8 = none → ∀ p9, (upd Hn p8 (.lst [v])) p9 = none → Dp K (upd (upd Hn p8 (.lst [v])) p9 (.lst (List.replicate (2 : Int).toNat [v]).flatten)) (.ref p9) (.list [fewD ws, fewD ws]) := fun {v d Hn} en hv he p8 np8 p9 np9 => by
      rw [he]
      exact .lst (SqL.of (by rw [upd_same]; rfl)) (.cons (hv _) (.cons (hv _) .nil))
    refine ⟨_, rfl, _, _, rfl, rfl, _, rfl, ?_⟩
    by_cases h2 : (2 : Int) < (me : Int)
    · rw [decide_eq_true h2]
      have fn : fewD ws = .none := fewD_none (wide_many B.wl (by omega))
      refine iteT ⟨_, rfl, .ref tl, _, rfl, toldD (Ex.refl _), shwFew2 ws, s1, fun p8 np8 => ⟨p8, 2, [.non], rfl, rfl, upd_same, by decide, by decide, s2, fun p9 np9 => ⟨.ref p9, _, rfl, two (Ex.refl _) (fun _ => .non) fn p8 np8 p9 np9, shwFew2 ws, rfl, ?_⟩⟩⟩
      rw [decide_eq_true rfl]
      exact fin _ ((Ex.new np8).trans (Ex.new np9))
    rw [decide_eq_false h2]
    obtain ⟨bk, t, eqb, hb, ht⟩ := dp_book hB10
    cases eqb
    refine iteF ⟨_, rfl, rfl, _, rfl, ?_⟩
    have close : fewD ws = .int (me : Int) → ∀ Hn, Ex H10 Hn → True := fun _ _ _ => trivial
    by_cases h0 : me = 0
    · rw [decide_eq_true (show V.int (me : Int) = V.int 0 by rw [h0]; rfl)]
      have hh : Hang ws := Classical.byContradiction fun nh => by
        have := wide_pos nh B.ne
        omega
      have fn : fewD ws = .int (me : Int) := fewD_some (by rw [(wide_zero hh).2.2, h0])
      refine iteT ⟨_, rfl, .ref tl, _, rfl, toldD (Ex.refl _), shwFew2 ws, _, rfl, s1, fun p8 np8 => ⟨p8, 2, [.int (me : Int)], rfl, rfl, upd_same, by decide, by decide, s2, fun p9 np9 => ⟨.ref p9, _, rfl, two (Ex.refl _) (fun _ => .int _) fn p8 np8 p9 np9, shwFew2 ws, rfl, ?_⟩⟩⟩
      rw [decide_eq_true rfl]
      exact fin _ ((Ex.new np8).trans (Ex.new np9))
    rw [decide_eq_false fun z => h0 (by have := V.int.inj z; omega)]
    have nh : ¬ Hang ws := fun hh => by
      obtain ⟨z1, z2, _⟩ := wide_zero hh
      omega
    refine iteF ⟨_, rfl, _, _, _, _, rfl, rfl, hb, atI_of (j := 0) rfl rfl, rfl, _, rfl, ?_⟩
    by_cases hn2 : n = 2
    · rw [decide_eq_true (show V.int (n : Int) = V.int 2 by rw [hn2]; rfl)]
      have fn : fewD ws = .int (me : Int) := fewD_some (by rw [← hme]; exact wide_two (hn2 ▸ B.wl) nh (by omega))
      refine iteT ⟨_, rfl, .ref tl, _, rfl, toldD (Ex.refl _), shwFew2 ws, _, rfl, s1, fun p8 np8 => ⟨p8, 2, [.int (me : Int)], rfl, rfl, upd_same, by decide, by decide, s2, fun p9 np9 => ⟨.ref p9, _, rfl, two (Ex.refl _) (fun _ => .int _) fn p8 np8 p9 np9, shwFew2 ws, rfl, ?_⟩⟩⟩
      rw [decide_eq_true rfl]
      exact fin _ ((Ex.new np8).trans (Ex.new np9))
    rw [decide_eq_false fun z => hn2 (by have := V.int.inj z; omega)]
    refine iteF ⟨_, rfl, tl, _, 0, v4, rfl, rfl, SqL.of htl, atI_of (j := 0) rfl rfl, v4, _, rfl, hv4 _, shwFew ws, _, rfl, tl, _, 1, v5, rfl, rfl, SqL.of htl, atI_of (j := 1) rfl rfl, v5, _, rfl, hv5 _, shwFew ws, rfl, ?_⟩
    rw [decide_eq_true rfl]
    refine ⟨_, rfl, iteT ⟨_, rfl, _, rfl, _, rfl, tl, _, 0, v4, rfl, rfl, SqL.of htl, atI_of (j := 0) rfl rfl, v4, _, rfl, hv4 _, shwFew ws, .ref b, n, me, ws, _, rfl, hB10, B, nh, hme.symm, rfl, fun u H11 e11 hu => ?_⟩⟩
    obtain rfl := dp_bl hu
    exact fin _ e11
def spLaw (K : PySem.W.Frag) : Sp := fun vs H Q _ => ∃ (a : Addr) (ns : List Int), vs = [.ref a] ∧ SqL K H a (ns.map V.int) ∧ ns.length ≤ 63 ∧ ∀ H', Q (.bl true) H'
theorem ok_law (T : Tx K mg) : Ok P w K mg base CX0 9 "law" ["script"] (spLaw K) := by
  refine T.d_law.ok sc_law (fun vs H Q E h => ?_) (fun f cdv A outer s H vs Q E hG hr h => ?_)
  · obtain ⟨a, ns, rfl, _⟩ := h
    rfl
  · obtain ⟨a, ns, rfl, hS, hl, q⟩ := h
    refine ⟨_, (pss_cons (ps_for PassesOwn.never rfl (pi_range1 (by rfl) T.b_range (pa_cons (pe_callB (call_max2 rfl) (by rfl) T.b_max (by decide +kernel) (pa_cons pe_int (pa_cons (pe_callB (call_min2 rfl) (by rfl) T.b_min (by decide +kernel) (pa_cons pe_int (pa_cons (pe_callB (call_lenK (K := K)) (by rfl) T.b_len PySem.boot_len (pa_cons (pv 0) pa_nil)) pa_nil))) pa_nil))) pa_nil)) (pg_name (i := 1) sc_law.nd rfl (Or.inl rfl)) (pss_cons (ps_set (i := 2) sc_law.nd rfl (Or.inl rfl) (pe_callO (ok_law_well T) hG (hr.mono (by decide)) (pa_cons (pv 0) (pa_cons (pv 1) pa_nil)))) (pss_one (ps_if (PW.pt (pw_or (pt_not (pt_val (pe_callO (ok_law_torn_right T) hG (hr.mono (by decide)) (pa_cons (pv 2) pa_nil)))) (pw_or1 (pt_not (pt_val (pe_callO (ok_law_wide_right T) hG (hr.mono (by decide)) (pa_cons (pv 2) pa_nil))))))) (pss_one (ps_ret pe_bl)) pss_nil)))) (pss_one (ps_ret pe_bl))), ?_⟩
    have lmap : (ns.map V.int).length = ns.length := List.length_map ..
    obtain ⟨m, hm, hm3⟩ : ∃ m : Nat, (if (if ((ns.map V.int).length : Int) < 3 then ((ns.map V.int).length : Int) else 3) > 2 then (if ((ns.map V.int).length : Int) < 3 then ((ns.map V.int).length : Int) else 3) else 2) = (m : Int) ∧ m ≤ 3 := by
      refine ⟨(if (if ((ns.map V.int).length : Int) < 3 then ((ns.map V.int).length : Int) else 3) > 2 then (if ((ns.map V.int).length : Int) < 3 then ((ns.map V.int).length : Int) else 3) else 2).toNat, ?_, ?_⟩
      all_goals (repeat' split) <;> omega
    refine ⟨_, rfl, a, _, rfl, .inl hS, _, _, rfl, _, _, rfl, _, rfl, ?_, ?_, ?_⟩
    · rw [hm]
      omega
    · rw [hm]
      omega
    rw [hm, Int.toNat_natCast]
    refine fo_rng (fun j σ H' => ∃ x1 x2, σ = [some (.ref a), x1, x2] ∧ Ex H H') ⟨_, _, rfl, Ex.refl _⟩ ?_ ?_
    · rintro j σ H1 hj ⟨x1, x2, rfl, e1⟩
      have hk : (0 : Int) + (j : Int) = (j : Int) := Int.zero_add _
      rw [hk]
      refine ⟨_, rfl, _, rfl, a, ns, j, rfl, ex_l e1 hS, by omega, by omega, fun wl G2 H2 e2 W2 => ?_⟩
      refine ⟨_, rfl, wl, 0, G2, rfl, by omega, W2, fun G3 H3 e3 W3 => ⟨_, rfl, iteF ⟨_, rfl, wl, 200, G3, rfl, by omega, W3, fun G4 H4 e4 W4 => ⟨_, rfl, iteF ⟨_, _, rfl, ((e1.trans e2).trans (e3.trans e4)).trans W4.e⟩⟩⟩⟩⟩
    · rintro σ H' ⟨x1, x2, rfl, e⟩
      exact q _
end

def D_is_integer : He.DefD := ⟨("is_integer", none), "is_integer", "is_integer", defArgs s_is_integer, defBody s_is_integer, defScope s_is_integer, [], []⟩
def D_anew : He.DefD := ⟨("anew", none), "anew", "anew", defArgs s_anew, defBody s_anew, defScope s_anew, [], []⟩
def D_are_ascending : He.DefD := ⟨("are_ascending", none), "are_ascending", "are_ascending", defArgs s_are_ascending, defBody s_are_ascending, defScope s_are_ascending, [], []⟩
def D_is_word : He.DefD := ⟨("is_word", none), "is_word", "is_word", defArgs s_is_word, defBody s_is_word, defScope s_is_word, [], []⟩
def D_is_size : He.DefD := ⟨("is_size", none), "is_size", "is_size", defArgs s_is_size, defBody s_is_size, defScope s_is_size, [], []⟩
def D_are_windows : He.DefD := ⟨("are_windows", none), "are_windows", "are_windows", defArgs s_are_windows, defBody s_are_windows, defScope s_are_windows, [], []⟩
def D_is_a_book : He.DefD := ⟨("is_a_book", none), "is_a_book", "is_a_book", defArgs s_is_a_book, defBody s_is_a_book, defScope s_is_a_book, [], []⟩
def D_places_of : He.DefD := ⟨("places_of", none), "places_of", "places_of", defArgs s_places_of, defBody s_places_of, defScope s_places_of, [], []⟩
def D_need_book : He.DefD := ⟨("need_book", none), "need_book", "need_book", defArgs s_need_book, defBody s_need_book, defScope s_need_book, [], []⟩
def D_begin_of : He.DefD := ⟨("begin_of", none), "begin_of", "begin_of", defArgs s_begin_of, defBody s_begin_of, defScope s_begin_of, [], []⟩
def D_end_of : He.DefD := ⟨("end_of", none), "end_of", "end_of", defArgs s_end_of, defBody s_end_of, defScope s_end_of, [], []⟩
def D_windows_out : He.DefD := ⟨("windows_out", none), "windows_out", "windows_out", defArgs s_windows_out, defBody s_windows_out, defScope s_windows_out, [], []⟩
def D_places_from : He.DefD := ⟨("places_from", none), "places_from", "places_from", defArgs s_places_from, defBody s_places_from, defScope s_places_from, [], []⟩
def D_a_closed_lot : He.DefD := ⟨("a_closed_lot", none), "a_closed_lot", "a_closed_lot", defArgs s_a_closed_lot, defBody s_a_closed_lot, defScope s_a_closed_lot, [], []⟩
def D_knots_of : He.DefD := ⟨("knots_of", none), "knots_of", "knots_of", defArgs s_knots_of, defBody s_knots_of, defScope s_knots_of, [], []⟩
def D_turned_about : He.DefD := ⟨("turned_about", none), "turned_about", "turned_about", defArgs s_turned_about, defBody s_turned_about, defScope s_turned_about, [], []⟩
def D_come_to : He.DefD := ⟨("come_to", none), "come_to", "come_to", defArgs s_come_to, defBody s_come_to, defScope s_come_to, [], []⟩
def D_hangs_by : He.DefD := ⟨("hangs_by", none), "hangs_by", "hangs_by", defArgs s_hangs_by, defBody s_hangs_by, defScope s_hangs_by, [], []⟩
def D_arcs_of : He.DefD := ⟨("arcs_of", none), "arcs_of", "arcs_of", defArgs s_arcs_of, defBody s_arcs_of, defScope s_arcs_of, [], []⟩
def D_long_arcs_of : He.DefD := ⟨("long_arcs_of", none), "long_arcs_of", "long_arcs_of", defArgs s_long_arcs_of, defBody s_long_arcs_of, defScope s_long_arcs_of, [], []⟩
def D_first_and_second : He.DefD := ⟨("first_and_second", none), "first_and_second", "first_and_second", defArgs s_first_and_second, defBody s_first_and_second, defScope s_first_and_second, [], []⟩
def D_fewest_joins : He.DefD := ⟨("fewest_joins", none), "fewest_joins", "fewest_joins", defArgs s_fewest_joins, defBody s_fewest_joins, defScope s_fewest_joins, [], []⟩
def D_need_some_ring : He.DefD := ⟨("need_some_ring", none), "need_some_ring", "need_some_ring", defArgs s_need_some_ring, defBody s_need_some_ring, defScope s_need_some_ring, [], []⟩
def D_book_without : He.DefD := ⟨("book_without", none), "book_without", "book_without", defArgs s_book_without, defBody s_book_without, defScope s_book_without, [], []⟩
def D_can_go : He.DefD := ⟨("can_go", none), "can_go", "can_go", defArgs s_can_go, defBody s_can_go, defScope s_can_go, [], []⟩
def D_needed : He.DefD := ⟨("needed", none), "needed", "needed", defArgs s_needed, defBody s_needed, defScope s_needed, [], []⟩
def D_may_go : He.DefD := ⟨("may_go", none), "may_go", "may_go", defArgs s_may_go, defBody s_may_go, defScope s_may_go, [], []⟩
def D_joined : He.DefD := ⟨("joined", none), "joined", "joined", defArgs s_joined, defBody s_joined, defScope s_joined, [], []⟩
def D_least_join : He.DefD := ⟨("least_join", none), "least_join", "least_join", defArgs s_least_join, defBody s_least_join, defScope s_least_join, [], []⟩
def D_law_well : He.DefD := ⟨("_law_well", none), "_law_well", "_law_well", defArgs s_law_well, defBody s_law_well, defScope s_law_well, [], []⟩
def D_law_pick : He.DefD := ⟨("_law_pick", none), "_law_pick", "_law_pick", defArgs s_law_pick, defBody s_law_pick, defScope s_law_pick, [], []⟩
def D_law_one_of : He.DefD := ⟨("_law_one_of", none), "_law_one_of", "_law_one_of", defArgs s_law_one_of, defBody s_law_one_of, defScope s_law_one_of, [], []⟩
def D_law_round : He.DefD := ⟨("_law_round", none), "_law_round", "_law_round", defArgs s_law_round, defBody s_law_round, defScope s_law_round, [], []⟩
def D_law_tally : He.DefD := ⟨("_law_tally", none), "_law_tally", "_law_tally", defArgs s_law_tally, defBody s_law_tally, defScope s_law_tally, [], []⟩
def D_law_ways_out : He.DefD := ⟨("_law_ways_out", none), "_law_ways_out", "_law_ways_out", defArgs s_law_ways_out, defBody s_law_ways_out, defScope s_law_ways_out, [], []⟩
def D_law_come_to : He.DefD := ⟨("_law_come_to", none), "_law_come_to", "_law_come_to", defArgs s_law_come_to, defBody s_law_come_to, defScope s_law_come_to, [], []⟩
def D_law_hangs : He.DefD := ⟨("_law_hangs", none), "_law_hangs", "_law_hangs", defArgs s_law_hangs, defBody s_law_hangs, defScope s_law_hangs, [], []⟩
def D_law_without : He.DefD := ⟨("_law_without", none), "_law_without", "_law_without", defArgs s_law_without, defBody s_law_without, defScope s_law_without, [], []⟩
def D_law_read_from : He.DefD := ⟨("_law_read_from", none), "_law_read_from", "_law_read_from", defArgs s_law_read_from, defBody s_law_read_from, defScope s_law_read_from, [], []⟩
def D_law_parted_book : He.DefD := ⟨("_law_parted_book", none), "_law_parted_book", "_law_parted_book", defArgs s_law_parted_book, defBody s_law_parted_book, defScope s_law_parted_book, [], []⟩
def D_law_torn_book : He.DefD := ⟨("_law_torn_book", none), "_law_torn_book", "_law_torn_book", defArgs s_law_torn_book, defBody s_law_torn_book, defScope s_law_torn_book, [], []⟩
def D_law_further : He.DefD := ⟨("_law_further", none), "_law_further", "_law_further", defArgs s_law_further, defBody s_law_further, defScope s_law_further, [], []⟩
def D_law_joins : He.DefD := ⟨("_law_joins", none), "_law_joins", "_law_joins", defArgs s_law_joins, defBody s_law_joins, defScope s_law_joins, [], []⟩
def D_law_ends : He.DefD := ⟨("_law_ends", none), "_law_ends", "_law_ends", defArgs s_law_ends, defBody s_law_ends, defScope s_law_ends, [], []⟩
def D_law_few_right : He.DefD := ⟨("_law_few_right", none), "_law_few_right", "_law_few_right", defArgs s_law_few_right, defBody s_law_few_right, defScope s_law_few_right, [], []⟩
def D_law_joined_right : He.DefD := ⟨("_law_joined_right", none), "_law_joined_right", "_law_joined_right", defArgs s_law_joined_right, defBody s_law_joined_right, defScope s_law_joined_right, [], []⟩
def D_law_torn_right : He.DefD := ⟨("_law_torn_right", none), "_law_torn_right", "_law_torn_right", defArgs s_law_torn_right, defBody s_law_torn_right, defScope s_law_torn_right, [], []⟩
def D_law_wide_right : He.DefD := ⟨("_law_wide_right", none), "_law_wide_right", "_law_wide_right", defArgs s_law_wide_right, defBody s_law_wide_right, defScope s_law_wide_right, [], []⟩
def D_law : He.DefD := ⟨("law", none), "law", "law", defArgs s_law, defBody s_law, defScope s_law, [], []⟩
def hfn : List He.DefD := [D_is_integer, D_anew, D_are_ascending, D_is_word, D_is_size, D_are_windows, D_is_a_book, D_places_of, D_need_book, D_begin_of, D_end_of, D_windows_out, D_places_from, D_a_closed_lot, D_knots_of, D_turned_about, D_come_to, D_hangs_by, D_arcs_of, D_long_arcs_of, D_first_and_second, D_fewest_joins, D_need_some_ring, D_book_without, D_can_go, D_needed, D_may_go, D_joined, D_least_join, D_law_well, D_law_pick, D_law_one_of, D_law_round, D_law_tally, D_law_ways_out, D_law_come_to, D_law_hangs, D_law_without, D_law_read_from, D_law_parted_book, D_law_torn_book, D_law_further, D_law_joins, D_law_ends, D_law_few_right, D_law_joined_right, D_law_torn_right, D_law_wide_right, D_law]
def hfa : List He.Fa := [.glo "is_integer", .glo "anew", .glo "are_ascending", .glo "is_word", .glo "is_size", .glo "are_windows", .glo "is_a_book", .glo "places_of", .glo "need_book", .glo "begin_of", .glo "end_of", .glo "windows_out", .glo "places_from", .glo "a_closed_lot", .glo "knots_of", .glo "turned_about", .glo "come_to", .glo "hangs_by", .glo "arcs_of", .glo "long_arcs_of", .glo "first_and_second", .glo "fewest_joins", .glo "need_some_ring", .glo "book_without", .glo "can_go", .glo "needed", .glo "may_go", .glo "joined", .glo "least_join", .glo "_law_well", .glo "_law_pick", .glo "_law_one_of", .glo "_law_round", .glo "_law_tally", .glo "_law_ways_out", .glo "_law_come_to", .glo "_law_hangs", .glo "_law_without", .glo "_law_read_from", .glo "_law_parted_book", .glo "_law_torn_book", .glo "_law_further", .glo "_law_joins", .glo "_law_ends", .glo "_law_few_right", .glo "_law_joined_right", .glo "_law_torn_right", .glo "_law_wide_right", .glo "law", .glo "PieceError", .glo "InvalidBook", .glo "NoRing", .glo "InvalidWindows", .free "range", .free "len", .free "max", .free "min", .free "abs", .free "int", .free "sorted", .free "tuple", .free "list", .free "all", .free "any", .free "isinstance", .free "enumerate", .free "repr", .free "str", .free "dict", .free "bool", .str "LETTERS" "abcdefghijklmnopqrstuvwxyz", .int "LEAST_SIZE" (2), .int "MOST_SIZE" (6)]
def loose0 : List PySem.Str := ["is_integer", "anew", "are_ascending", "is_word", "is_size", "are_windows", "is_a_book", "places_of", "need_book", "begin_of", "end_of", "windows_out", "places_from", "a_closed_lot", "knots_of", "turned_about", "come_to", "hangs_by", "arcs_of", "long_arcs_of", "first_and_second", "fewest_joins", "need_some_ring", "book_without", "can_go"]
def loose1 : List PySem.Str := ["needed", "may_go", "joined", "least_join", "_law_well", "_law_pick", "_law_one_of", "_law_round", "_law_tally", "_law_ways_out", "_law_come_to", "_law_hangs", "_law_without", "_law_read_from", "_law_parted_book", "_law_torn_book", "_law_further", "_law_joins", "_law_ends", "_law_few_right", "_law_joined_right", "_law_torn_right", "_law_wide_right", "PieceError", "InvalidBook"]
def loose2 : List PySem.Str := ["NoRing", "InvalidWindows", "LETTERS", "LEAST_SIZE", "MOST_SIZE"]
def looseAll : List PySem.Str := loose0 ++ loose1 ++ loose2
abbrev hR : PySem.W.OpenRow := PySem.W.OpenLaw.row PySem.Challenge.rw_surepieces_k65_whole_windows_that_join
abbrev hHk : PySem.W.Hook := He.hookD 4 hfa hfn
def hob (s : PySem.W.SharedT) : He.AlD := He.obsDG 4 hfa hfn (HandSHeadRun.getT s)
theorem hob_eq (s : PySem.W.SharedT) : hob s = hHk.obs s.abs := He.obsDG_eq (HandSHeadRun.getT_eq s)
theorem hrun (w : World) : HandSHeadRun.RunEq hR (PySem.W.view hR.prog [62]) hHk hob 4000 looseAll w := by
  intro os
  kernel_rfl
theorem hfacts {K : PySem.W.Frag} {h : Heap} {mg : Str → Option Value} (X : K.In h) (G : h.Ns mainGlobals mg) (c : He.SaysD hfa hfn K) : Tx K mg where
  d_is_integer := by
    obtain ⟨fd, F⟩ := c.def_ 0 (d := D_is_integer) rfl
    exact ⟨_, fd, F, F.bindsN fun _ _ _ _ _ _ us hl => match us, hl with | [_], _ => rfl, He.glo_ok X G (c.fact 0 (f := .glo "is_integer") rfl)⟩
  d_anew := by
    obtain ⟨fd, F⟩ := c.def_ 1 (d := D_anew) rfl
    exact ⟨_, fd, F, F.bindsN fun _ _ _ _ _ _ us hl => match us, hl with | [_], _ => rfl, He.glo_ok X G (c.fact 1 (f := .glo "anew") rfl)⟩
  d_are_ascending := by
    obtain ⟨fd, F⟩ := c.def_ 2 (d := D_are_ascending) rfl
    exact ⟨_, fd, F, F.bindsN fun _ _ _ _ _ _ us hl => match us, hl with | [_], _ => rfl, He.glo_ok X G (c.fact 2 (f := .glo "are_ascending") rfl)⟩
  d_is_word := by
    obtain ⟨fd, F⟩ := c.def_ 3 (d := D_is_word) rfl
    exact ⟨_, fd, F, F.bindsN fun _ _ _ _ _ _ us hl => match us, hl with | [_], _ => rfl, He.glo_ok X G (c.fact 3 (f := .glo "is_word") rfl)⟩
  d_is_size := by
    obtain ⟨fd, F⟩ := c.def_ 4 (d := D_is_size) rfl
    exact ⟨_, fd, F, F.bindsN fun _ _ _ _ _ _ us hl => match us, hl with | [_], _ => rfl, He.glo_ok X G (c.fact 4 (f := .glo "is_size") rfl)⟩
  d_are_windows := by
    obtain ⟨fd, F⟩ := c.def_ 5 (d := D_are_windows) rfl
    exact ⟨_, fd, F, F.bindsN fun _ _ _ _ _ _ us hl => match us, hl with | [_, _], _ => rfl, He.glo_ok X G (c.fact 5 (f := .glo "are_windows") rfl)⟩
  d_is_a_book := by
    obtain ⟨fd, F⟩ := c.def_ 6 (d := D_is_a_book) rfl
    exact ⟨_, fd, F, F.bindsN fun _ _ _ _ _ _ us hl => match us, hl with | [_], _ => rfl, He.glo_ok X G (c.fact 6 (f := .glo "is_a_book") rfl)⟩
  d_places_of := by
    obtain ⟨fd, F⟩ := c.def_ 7 (d := D_places_of) rfl
    exact ⟨_, fd, F, F.bindsN fun _ _ _ _ _ _ us hl => match us, hl with | [_], _ => rfl, He.glo_ok X G (c.fact 7 (f := .glo "places_of") rfl)⟩
  d_need_book := by
    obtain ⟨fd, F⟩ := c.def_ 8 (d := D_need_book) rfl
    exact ⟨_, fd, F, F.bindsN fun _ _ _ _ _ _ us hl => match us, hl with | [_], _ => rfl, He.glo_ok X G (c.fact 8 (f := .glo "need_book") rfl)⟩
  d_begin_of := by
    obtain ⟨fd, F⟩ := c.def_ 9 (d := D_begin_of) rfl
    exact ⟨_, fd, F, F.bindsN fun _ _ _ _ _ _ us hl => match us, hl with | [_], _ => rfl, He.glo_ok X G (c.fact 9 (f := .glo "begin_of") rfl)⟩
  d_end_of := by
    obtain ⟨fd, F⟩ := c.def_ 10 (d := D_end_of) rfl
    exact ⟨_, fd, F, F.bindsN fun _ _ _ _ _ _ us hl => match us, hl with | [_], _ => rfl, He.glo_ok X G (c.fact 10 (f := .glo "end_of") rfl)⟩
  d_windows_out := by
    obtain ⟨fd, F⟩ := c.def_ 11 (d := D_windows_out) rfl
    exact ⟨_, fd, F, F.bindsN fun _ _ _ _ _ _ us hl => match us, hl with | [_], _ => rfl, He.glo_ok X G (c.fact 11 (f := .glo "windows_out") rfl)⟩
  d_places_from := by
    obtain ⟨fd, F⟩ := c.def_ 12 (d := D_places_from) rfl
    exact ⟨_, fd, F, F.bindsN fun _ _ _ _ _ _ us hl => match us, hl with | [_, _], _ => rfl, He.glo_ok X G (c.fact 12 (f := .glo "places_from") rfl)⟩
  d_a_closed_lot := by
    obtain ⟨fd, F⟩ := c.def_ 13 (d := D_a_closed_lot) rfl
    exact ⟨_, fd, F, F.bindsN fun _ _ _ _ _ _ us hl => match us, hl with | [_], _ => rfl, He.glo_ok X G (c.fact 13 (f := .glo "a_closed_lot") rfl)⟩
  d_knots_of := by
    obtain ⟨fd, F⟩ := c.def_ 14 (d := D_knots_of) rfl
    exact ⟨_, fd, F, F.bindsN fun _ _ _ _ _ _ us hl => match us, hl with | [_], _ => rfl, He.glo_ok X G (c.fact 14 (f := .glo "knots_of") rfl)⟩
  d_turned_about := by
    obtain ⟨fd, F⟩ := c.def_ 15 (d := D_turned_about) rfl
    exact ⟨_, fd, F, F.bindsN fun _ _ _ _ _ _ us hl => match us, hl with | [_], _ => rfl, He.glo_ok X G (c.fact 15 (f := .glo "turned_about") rfl)⟩
  d_come_to := by
    obtain ⟨fd, F⟩ := c.def_ 16 (d := D_come_to) rfl
    exact ⟨_, fd, F, F.bindsN fun _ _ _ _ _ _ us hl => match us, hl with | [_, _], _ => rfl, He.glo_ok X G (c.fact 16 (f := .glo "come_to") rfl)⟩
  d_hangs_by := by
    obtain ⟨fd, F⟩ := c.def_ 17 (d := D_hangs_by) rfl
    exact ⟨_, fd, F, F.bindsN fun _ _ _ _ _ _ us hl => match us, hl with | [_, _, _], _ => rfl, He.glo_ok X G (c.fact 17 (f := .glo "hangs_by") rfl)⟩
  d_arcs_of := by
    obtain ⟨fd, F⟩ := c.def_ 18 (d := D_arcs_of) rfl
    exact ⟨_, fd, F, F.bindsN fun _ _ _ _ _ _ us hl => match us, hl with | [_, _], _ => rfl, He.glo_ok X G (c.fact 18 (f := .glo "arcs_of") rfl)⟩
  d_long_arcs_of := by
    obtain ⟨fd, F⟩ := c.def_ 19 (d := D_long_arcs_of) rfl
    exact ⟨_, fd, F, F.bindsN fun _ _ _ _ _ _ us hl => match us, hl with | [_, _], _ => rfl, He.glo_ok X G (c.fact 19 (f := .glo "long_arcs_of") rfl)⟩
  d_first_and_second := by
    obtain ⟨fd, F⟩ := c.def_ 20 (d := D_first_and_second) rfl
    exact ⟨_, fd, F, F.bindsN fun _ _ _ _ _ _ us hl => match us, hl with | [_, _, _], _ => rfl, He.glo_ok X G (c.fact 20 (f := .glo "first_and_second") rfl)⟩
  d_fewest_joins := by
    obtain ⟨fd, F⟩ := c.def_ 21 (d := D_fewest_joins) rfl
    exact ⟨_, fd, F, F.bindsN fun _ _ _ _ _ _ us hl => match us, hl with | [_], _ => rfl, He.glo_ok X G (c.fact 21 (f := .glo "fewest_joins") rfl)⟩
  d_need_some_ring := by
    obtain ⟨fd, F⟩ := c.def_ 22 (d := D_need_some_ring) rfl
    exact ⟨_, fd, F, F.bindsN fun _ _ _ _ _ _ us hl => match us, hl with | [_], _ => rfl, He.glo_ok X G (c.fact 22 (f := .glo "need_some_ring") rfl)⟩
  d_book_without := by
    obtain ⟨fd, F⟩ := c.def_ 23 (d := D_book_without) rfl
    exact ⟨_, fd, F, F.bindsN fun _ _ _ _ _ _ us hl => match us, hl with | [_, _], _ => rfl, He.glo_ok X G (c.fact 23 (f := .glo "book_without") rfl)⟩
  d_can_go := by
    obtain ⟨fd, F⟩ := c.def_ 24 (d := D_can_go) rfl
    exact ⟨_, fd, F, F.bindsN fun _ _ _ _ _ _ us hl => match us, hl with | [_, _], _ => rfl, He.glo_ok X G (c.fact 24 (f := .glo "can_go") rfl)⟩
  d_needed := by
    obtain ⟨fd, F⟩ := c.def_ 25 (d := D_needed) rfl
    exact ⟨_, fd, F, F.bindsN fun _ _ _ _ _ _ us hl => match us, hl with | [_], _ => rfl, He.glo_ok X G (c.fact 25 (f := .glo "needed") rfl)⟩
  d_may_go := by
    obtain ⟨fd, F⟩ := c.def_ 26 (d := D_may_go) rfl
    exact ⟨_, fd, F, F.bindsN fun _ _ _ _ _ _ us hl => match us, hl with | [_, _], _ => rfl, He.glo_ok X G (c.fact 26 (f := .glo "may_go") rfl)⟩
  d_joined := by
    obtain ⟨fd, F⟩ := c.def_ 27 (d := D_joined) rfl
    exact ⟨_, fd, F, F.bindsN fun _ _ _ _ _ _ us hl => match us, hl with | [_, _], _ => rfl, He.glo_ok X G (c.fact 27 (f := .glo "joined") rfl)⟩
  d_least_join := by
    obtain ⟨fd, F⟩ := c.def_ 28 (d := D_least_join) rfl
    exact ⟨_, fd, F, F.bindsN fun _ _ _ _ _ _ us hl => match us, hl with | [_], _ => rfl, He.glo_ok X G (c.fact 28 (f := .glo "least_join") rfl)⟩
  d_law_well := by
    obtain ⟨fd, F⟩ := c.def_ 29 (d := D_law_well) rfl
    exact ⟨_, fd, F, F.bindsN fun _ _ _ _ _ _ us hl => match us, hl with | [_, _], _ => rfl, He.glo_ok X G (c.fact 29 (f := .glo "_law_well") rfl)⟩
  d_law_pick := by
    obtain ⟨fd, F⟩ := c.def_ 30 (d := D_law_pick) rfl
    exact ⟨_, fd, F, F.bindsN fun _ _ _ _ _ _ us hl => match us, hl with | [_, _], _ => rfl, He.glo_ok X G (c.fact 30 (f := .glo "_law_pick") rfl)⟩
  d_law_one_of := by
    obtain ⟨fd, F⟩ := c.def_ 31 (d := D_law_one_of) rfl
    exact ⟨_, fd, F, F.bindsN fun _ _ _ _ _ _ us hl => match us, hl with | [_, _], _ => rfl, He.glo_ok X G (c.fact 31 (f := .glo "_law_one_of") rfl)⟩
  d_law_round := by
    obtain ⟨fd, F⟩ := c.def_ 32 (d := D_law_round) rfl
    exact ⟨_, fd, F, F.bindsN fun _ _ _ _ _ _ us hl => match us, hl with | [_, _], _ => rfl, He.glo_ok X G (c.fact 32 (f := .glo "_law_round") rfl)⟩
  d_law_tally := by
    obtain ⟨fd, F⟩ := c.def_ 33 (d := D_law_tally) rfl
    exact ⟨_, fd, F, F.bindsN fun _ _ _ _ _ _ us hl => match us, hl with | [_], _ => rfl, He.glo_ok X G (c.fact 33 (f := .glo "_law_tally") rfl)⟩
  d_law_ways_out := by
    obtain ⟨fd, F⟩ := c.def_ 34 (d := D_law_ways_out) rfl
    exact ⟨_, fd, F, F.bindsN fun _ _ _ _ _ _ us hl => match us, hl with | [_], _ => rfl, He.glo_ok X G (c.fact 34 (f := .glo "_law_ways_out") rfl)⟩
  d_law_come_to := by
    obtain ⟨fd, F⟩ := c.def_ 35 (d := D_law_come_to) rfl
    exact ⟨_, fd, F, F.bindsN fun _ _ _ _ _ _ us hl => match us, hl with | [_, _], _ => rfl, He.glo_ok X G (c.fact 35 (f := .glo "_law_come_to") rfl)⟩
  d_law_hangs := by
    obtain ⟨fd, F⟩ := c.def_ 36 (d := D_law_hangs) rfl
    exact ⟨_, fd, F, F.bindsN fun _ _ _ _ _ _ us hl => match us, hl with | [_], _ => rfl, He.glo_ok X G (c.fact 36 (f := .glo "_law_hangs") rfl)⟩
  d_law_without := by
    obtain ⟨fd, F⟩ := c.def_ 37 (d := D_law_without) rfl
    exact ⟨_, fd, F, F.bindsN fun _ _ _ _ _ _ us hl => match us, hl with | [_, _], _ => rfl, He.glo_ok X G (c.fact 37 (f := .glo "_law_without") rfl)⟩
  d_law_read_from := by
    obtain ⟨fd, F⟩ := c.def_ 38 (d := D_law_read_from) rfl
    exact ⟨_, fd, F, F.bindsN fun _ _ _ _ _ _ us hl => match us, hl with | [_, _, _], _ => rfl, He.glo_ok X G (c.fact 38 (f := .glo "_law_read_from") rfl)⟩
  d_law_parted_book := by
    obtain ⟨fd, F⟩ := c.def_ 39 (d := D_law_parted_book) rfl
    exact ⟨_, fd, F, F.bindsN fun _ _ _ _ _ _ us hl => match us, hl with | [_, _], _ => rfl, He.glo_ok X G (c.fact 39 (f := .glo "_law_parted_book") rfl)⟩
  d_law_torn_book := by
    obtain ⟨fd, F⟩ := c.def_ 40 (d := D_law_torn_book) rfl
    exact ⟨_, fd, F, F.bindsN fun _ _ _ _ _ _ us hl => match us, hl with | [_], _ => rfl, He.glo_ok X G (c.fact 40 (f := .glo "_law_torn_book") rfl)⟩
  d_law_further := by
    obtain ⟨fd, F⟩ := c.def_ 41 (d := D_law_further) rfl
    exact ⟨_, fd, F, F.bindsN fun _ _ _ _ _ _ us hl => match us, hl with | [_, _, _], _ => rfl, He.glo_ok X G (c.fact 41 (f := .glo "_law_further") rfl)⟩
  d_law_joins := by
    obtain ⟨fd, F⟩ := c.def_ 42 (d := D_law_joins) rfl
    exact ⟨_, fd, F, F.bindsN fun _ _ _ _ _ _ us hl => match us, hl with | [_], _ => rfl, He.glo_ok X G (c.fact 42 (f := .glo "_law_joins") rfl)⟩
  d_law_ends := by
    obtain ⟨fd, F⟩ := c.def_ 43 (d := D_law_ends) rfl
    exact ⟨_, fd, F, F.bindsN fun _ _ _ _ _ _ us hl => match us, hl with | [_], _ => rfl, He.glo_ok X G (c.fact 43 (f := .glo "_law_ends") rfl)⟩
  d_law_few_right := by
    obtain ⟨fd, F⟩ := c.def_ 44 (d := D_law_few_right) rfl
    exact ⟨_, fd, F, F.bindsN fun _ _ _ _ _ _ us hl => match us, hl with | [_, _, _], _ => rfl, He.glo_ok X G (c.fact 44 (f := .glo "_law_few_right") rfl)⟩
  d_law_joined_right := by
    obtain ⟨fd, F⟩ := c.def_ 45 (d := D_law_joined_right) rfl
    exact ⟨_, fd, F, F.bindsN fun _ _ _ _ _ _ us hl => match us, hl with | [_, _], _ => rfl, He.glo_ok X G (c.fact 45 (f := .glo "_law_joined_right") rfl)⟩
  d_law_torn_right := by
    obtain ⟨fd, F⟩ := c.def_ 46 (d := D_law_torn_right) rfl
    exact ⟨_, fd, F, F.bindsN fun _ _ _ _ _ _ us hl => match us, hl with | [_], _ => rfl, He.glo_ok X G (c.fact 46 (f := .glo "_law_torn_right") rfl)⟩
  d_law_wide_right := by
    obtain ⟨fd, F⟩ := c.def_ 47 (d := D_law_wide_right) rfl
    exact ⟨_, fd, F, F.bindsN fun _ _ _ _ _ _ us hl => match us, hl with | [_], _ => rfl, He.glo_ok X G (c.fact 47 (f := .glo "_law_wide_right") rfl)⟩
  d_law := by
    obtain ⟨fd, F⟩ := c.def_ 48 (d := D_law) rfl
    exact ⟨_, fd, F, F.bindsN fun _ _ _ _ _ _ us hl => match us, hl with | [_], _ => rfl, He.glo_ok X G (c.fact 48 (f := .glo "law") rfl)⟩
  k_least_join_book := by
    obtain ⟨fd, F⟩ := c.def_ 28 (d := D_least_join) rfl
    exact KbAt.of (st := s_least_join) F (He.glo_ok X G (c.fact 28 (f := .glo "least_join") rfl)) fun _ _ _ _ _ _ ws hl => match ws, hl with | [_], _ => rfl
  k_joined_more_book := by
    obtain ⟨fd, F⟩ := c.def_ 27 (d := D_joined) rfl
    exact KbAt.of (st := s_joined) F (He.glo_ok X G (c.fact 27 (f := .glo "joined") rfl)) fun _ _ _ _ _ _ ws hl => match ws, hl with | [_, _], _ => rfl
  b_range := He.free_ok X G (c.fact 53 (f := .free "range") rfl)
  b_len := He.free_ok X G (c.fact 54 (f := .free "len") rfl)
  b_max := He.free_ok X G (c.fact 55 (f := .free "max") rfl)
  b_min := He.free_ok X G (c.fact 56 (f := .free "min") rfl)
  b_abs := He.free_ok X G (c.fact 57 (f := .free "abs") rfl)
  b_int := He.free_ok X G (c.fact 58 (f := .free "int") rfl)
  b_sorted := He.free_ok X G (c.fact 59 (f := .free "sorted") rfl)
  b_tuple := He.free_ok X G (c.fact 60 (f := .free "tuple") rfl)
  b_list := He.free_ok X G (c.fact 61 (f := .free "list") rfl)
  b_all := He.free_ok X G (c.fact 62 (f := .free "all") rfl)
  b_any := He.free_ok X G (c.fact 63 (f := .free "any") rfl)
  b_isinstance := He.free_ok X G (c.fact 64 (f := .free "isinstance") rfl)
  b_enumerate := He.free_ok X G (c.fact 65 (f := .free "enumerate") rfl)
  b_repr := He.free_ok X G (c.fact 66 (f := .free "repr") rfl)
  b_str := He.free_ok X G (c.fact 67 (f := .free "str") rfl)
  b_dict := He.free_ok X G (c.fact 68 (f := .free "dict") rfl)
  b_bool := He.free_ok X G (c.fact 69 (f := .free "bool") rfl)
  g_LETTERS := He.str_ok X G (c.fact 70 (f := .str "LETTERS" "abcdefghijklmnopqrstuvwxyz") rfl)
  g_LEAST_SIZE := He.int_ok X G (c.fact 71 (f := .int "LEAST_SIZE" (2)) rfl)
  g_MOST_SIZE := He.int_ok X G (c.fact 72 (f := .int "MOST_SIZE" (6)) rfl)
end My
open PySem PySem.W PySem.Calls PyProof.Rows
theorem PySem.Challenge.cw_surepieces_k65_whole_windows_that_join_holds : PySem.Challenge.rw_surepieces_k65_whole_windows_that_join.Holds := by
  w_on; o_law
  refine HandSHeadRun.head_any (r := OpenLaw.row PySem.Challenge.rw_surepieces_k65_whole_windows_that_join) (q := view (OpenLaw.row PySem.Challenge.rw_surepieces_k65_whole_windows_that_join).prog [62]) (H := My.hHk) (ob := My.hob) (M := 4000) (loose := My.looseAll) (d := HandSHeadRun.topDef (OpenLaw.row PySem.Challenge.rw_surepieces_k65_whole_windows_that_join).prog 62) (kwd := []) My.hob_eq
    (by kernel_rfl) (fun s => by kernel_rfl) My.hrun (by kernel_rfl) (by kernel_rfl) (by kernel_rfl) (by rfl) (by first | assumption | decide +kernel) (by decide +kernel) ⟨rfl, rfl, rfl, rfl, rfl, by decide +kernel⟩ ?hw ?hc
  case hw => w_witness2
  case hc =>
    refine My.end_walk (l := PySem.Challenge.rw_surepieces_k65_whole_windows_that_join) (n := 63) (k := 9) (x := "script") rfl (by decide) (by kernel_rfl) ⟨rfl, by decide, by decide⟩ ?F
    intro w mg fa h Y G hmg0
    obtain ⟨K, KX, c⟩ := Y
    have hmg : mg ("law" : PySem.Str) = some (.ref fa) := by
      have e : (HandSHeadRun.topDef (OpenLaw.row PySem.Challenge.rw_surepieces_k65_whole_windows_that_join).prog 62).name = ("law" : PySem.Str) := by kernel_rfl
      rw [← e]
      exact hmg0
    have T := My.hfacts KX G c
    obtain ⟨fd, hb, hF⟩ := My.law_fn (P := (PySem.Challenge.rw_surepieces_k65_whole_windows_that_join).prog) (w := w) (sp := My.spLaw K) (k := 9) T.d_law hmg (fun base => My.ok_law T) fun _ _ _ _ _ _ us hl => match us, hl with | [_], _ => rfl
    exact ⟨K, fd, My.spLaw K, KX, hb, fun H a ns hl _ hS => ⟨a, ns, rfl, hS, hl, fun _ => rfl⟩, fun base _ _ => hF base⟩

