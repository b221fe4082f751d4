import PyProof.Rows.All
import Wide.All
import OpenK.AllK
import Wide.FinOn
import KE.KStateDown
import Lean
import HandS.ForMost
import HandS.Defaults
import HandS.Evl
import HandS.IsInst
import HandS.TupAny
import HandS.Wide
import HandS.Deep
import HandS.DictComp
import HandS.HeadEnd
import HandS.TryOnly
import HandS.Head0
import HandS.Head1
import HandS.Head2
import HandS.HeadHook1
import HandS.HeadHook2
import HandS.SortInts
import KE.SortData
import HandS.Exc
import HandS.ExcInit
import HandS.ExcOwn
import HandS.ExcField
import HandS.ExcValue
import KE.KExcSuper
import KE.KSuper
import PySem.Challenge.RW_surepieces_k63_whole_what_may_go
set_option Elab.async false
set_option linter.all false
set_option maxRecDepth 100000
set_option maxHeartbeats 4000000
namespace My
open PySem PySem.Spec PyProof.Rows L2 Evl
/-! ### a def's promise where no repr is under way (guards) -/
structure FnG (P : Program) (w : World) (K : PySem.W.Frag) (mg : Str → Option Value) (base : Heap) (CX : CXT) (k : Nat) (f : Addr) (fd : FuncData) (ps : List Str) (sp : Sp) : Prop where
  len : ∀ vs H Q E, sp vs H Q E → vs.length = ps.length
  run : ∀ (A : Around) (outer : List Env) (st : Shared) (H : Hp) (args : Args) (us : List Value) (vs : List V) (Q : VK) (E : XK), A.guards = some [] → Room k A → Env0 P w K mg base A outer st H →
    BindsTo st fd args (ps.zip us) → Vals vs us → sp vs H Q E → codeAny (model P w) A (.call (.ref f) args) (CR CX outer P w H st Q E) st
section
variable {P : Program} {w : World} {K : PySem.W.Frag} {mg : Str → Option Value} {base : Heap} {CX : CXT} {x qual : Str} {params : Arguments} {body : List Stmt} {scope : Scope} {dvs : List V} {kws : List (Str × V)} {f : Addr} {fd : FuncData}
theorem FnG.of {k : Nat} {ps : List Str} {sp : Sp} (G : FnOk P w K mg base CX k f fd ps sp) : FnG P w K mg base CX k f fd ps sp := ⟨G.len, fun A outer st H args us vs Q E _ => G.run A outer st H args us vs Q E⟩
theorem FnG.imp {k : Nat} {ps : List Str} {sp sp' : Sp} (G : FnG P w K mg base CX k f fd ps sp) (h : ∀ vs H Q E, sp' vs H Q E → sp vs H Q E) : FnG P w K mg base CX k f fd ps sp' :=
  ⟨fun vs H Q E q => G.len vs H Q E (h _ _ _ _ q), fun A outer st H args us vs Q E hg hr he hb hv hs => G.run A outer st H args us vs Q E hg hr he hb hv (h _ _ _ _ hs)⟩
/-- a def of the text by its body -/
theorem fn_g {N ps : List Str} {k : Nat} {sp : Sp} (F : FunD K x qual params body scope dvs kws f fd) (S : FnScope N ps scope) (len : ∀ vs H Q E, sp vs H Q E → vs.length = ps.length)
    (hb : ∀ (cdv : Value) (A : Around) (outer : List Env) (st : Shared) (H : Hp) (vs : List V) (Q : VK) (E : XK), (A.deeper (envOfC qual scope st.heap.objs.size f cdv)).guards = some [] → Room k (A.deeper (envOfC qual scope st.heap.objs.size f cdv)) → sp vs H Q E →
      ∃ t, PSs (cxOf CX P w K mg base N qual scope f cdv A outer st H E) body t ∧ t { nx := fun _ H' => Q .non H', rt := Q } (start N vs) H) : FnG P w K mg base CX (k + 1) f fd ps sp := by
  obtain ⟨oc, od, dV, kV, doc, pm, an, cdv, ct, osl, rfl, lk, hcd, _, _⟩ := F.ex
  refine ⟨len, fun A outer st H args us vs Q E hgd hroom henv hbd hvals hsp => ?_⟩
  have hlen := len _ _ _ _ hsp
  have kin : K.In st.heap := henv.mod.kin.keeps fun b o e => (henv.bs b o e).1
  have nolim : st.heap.NoLimit := henv.mod.nolimit.keeps fun b o e => (henv.bs b o e).1
  have kinds : ∀ y ∈ ps.zip us, scope.names.lookup y.1 = some .local ∨ (scope.names.lookup y.1 = some .cell ∧ ((cellsFrom (st.heap.objs.size + 1) scope.names []).lookup y.1).isSome = true) := fun ⟨n, v⟩ hy =>
    (S.par n (List.of_mem_zip hy).1).elim .inl fun q => .inr ⟨q, PySem.W.cellsFrom_some _ _ _ (.inl q)⟩
  refine codeAny_call_function hroom.depth (kin _ _ lk) rfl S.co S.gen rfl (PySem.W.codeRec_of kin hcd) (hbd _ _ _ _ ?_)
  refine wpAny_newFunctionEnv_cells S.kind kinds fun env heq s1 inC => ?_
  subst heq
  refine ⟨nolim.keeps inC.toInCall.keep, codeAny_func ?_⟩
  obtain ⟨t, ht, hq⟩ := hb cdv A outer st H vs Q E hgd (hroom.deeper _) hsp
  have I0 : Inv (cxOf CX P w K mg base N qual scope f cdv A outer st H E) [] (start N vs) H s1 := inv_start S hroom.hd henv hlen hvals inC
  refine wpAny_mono (ht.run [] s1 (start N vs) H _ I0 hq) (fun fl s' hs => ?_) fun e s' hs => hs
  have fin : ∀ {σ2 : L2.St} {H2 : Hp} {v : V} {u : Value}, Inv (cxOf CX P w K mg base N qual scope f cdv A outer st H E) [] σ2 H2 s' → RelV v u → Q v H2 → CE outer P w H st Q u s' :=
    fun {σ2 H2 v u} J rv q => ⟨v, H2, J.os, J.bare, J.base, J.hok, rv, q⟩
  cases fl with
  | ret u =>
    obtain ⟨v, _, _, J, rv, q⟩ := hs
    exact fin J rv q
  | next =>
    obtain ⟨_, _, J, q⟩ := hs
    exact fin (v := V.non) (u := Value.none) J rfl q
  | brk =>
    obtain ⟨_, _, _, q⟩ := hs
    exact q.elim
  | cont =>
    obtain ⟨_, _, _, q⟩ := hs
    exact q.elim
end
def FdAt (K : PySem.W.Frag) (f : Addr) (fd : FuncData) : Prop := ∃ oc od osl, K.lookup f = some ⟨oc, od, .func fd, osl⟩
/-- a def by its name: what it keeps -/
def Ok (P : Program) (w : World) (K : PySem.W.Frag) (mg : Str → Option Value) (base : Heap) (CX : CXT) (k : Nat) (x : Str) (ps : List Str) (sp : Sp) : Prop :=
  ∃ f fd, FnG P w K mg base CX k f fd ps sp ∧ Binds K fd ps [] ∧ mg x = some (.ref f) ∧ PySem.W.keepIn K (.ref f) = true ∧ FdAt K f fd
theorem fdAt_of {K : PySem.W.Frag} {x qual : Str} {params : Arguments} {body : List Stmt} {scope : Scope} {dvs : List V} {kws : List (Str × V)} {f : Addr} {fd : FuncData} (F : FunD K x qual params body scope dvs kws f fd) : FdAt K f fd := by
  obtain ⟨oc, od, _, _, _, _, _, _, _, osl, _, lk, _⟩ := F.ex
  exact ⟨oc, od, osl, lk⟩
theorem fdAt_eq {K : PySem.W.Frag} {f : Addr} {fd fe : FuncData} (a : FdAt K f fd) (b : FdAt K f fe) : fd = fe := by
  obtain ⟨_, _, _, h1⟩ := a
  obtain ⟨_, _, _, h2⟩ := b
  rw [h1] at h2
  cases h2
  rfl
abbrev FnP (K : PySem.W.Frag) (x : Str) (st : Stmt) (f : Addr) (fd : FuncData) : Prop := FunD K x x (defArgs st) (defBody st) (defScope st) [] [] f fd
def DefAt (K : PySem.W.Frag) (mg : Str → Option Value) (x : Str) (st : Stmt) (ps : List Str) : Prop := ∃ f fd, FnP K x st f fd ∧ Binds K fd ps [] ∧ mg x = some (.ref f)
section
variable {P : Program} {w : World} {K : PySem.W.Frag} {mg : Str → Option Value} {base : Heap} {CX : CXT} {x : Str} {st : Stmt}
/-- a def's promise from its place in the text -/
theorem DefAt.ok {N ps : List Str} {k : Nat} {sp : Sp} (D : DefAt K mg x st ps) (S : FnScope N ps (defScope st)) (len : ∀ vs H Q E, sp vs H Q E → vs.length = ps.length)
    (hb : ∀ (f : Addr) (cdv : Value) (A : Around) (outer : List Env) (s : Shared) (H : Hp) (vs : List V) (Q : VK) (E : XK), (A.deeper (envOfC x (defScope st) s.heap.objs.size f cdv)).guards = some [] → Room k (A.deeper (envOfC x (defScope st) s.heap.objs.size f cdv)) → sp vs H Q E →
      ∃ t, PSs (cxOf CX P w K mg base N x (defScope st) f cdv A outer s H E).nox (defBody st) t ∧ t { nx := fun _ H' => Q .non H', rt := Q } (start N vs) H) : Ok P w K mg base CX (k + 1) x ps sp := by
  obtain ⟨f, fd, F, b, g⟩ := D
  refine ⟨f, fd, fn_g F S len fun cdv A outer s H vs Q E hg hr h => ?_, b, g, F.kp, fdAt_of F⟩
  obtain ⟨t, ht, q⟩ := hb f cdv A outer s H vs Q E hg hr h
  exact ⟨t, ht.nox, q⟩
/-- the same of a def that an exception may leave -/
theorem DefAt.okX {N ps : List Str} {k : Nat} {sp : Sp} (D : DefAt K mg x st ps) (S : FnScope N ps (defScope st)) (len : ∀ vs H Q E, sp vs H Q E → vs.length = ps.length)
    (hb : ∀ (f : Addr) (cdv : Value) (A : Around) (outer : List Env) (s : Shared) (H : Hp) (vs : List V) (Q : VK) (E : XK), (A.deeper (envOfC x (defScope st) s.heap.objs.size f cdv)).guards = some [] → Room k (A.deeper (envOfC x (defScope st) s.heap.objs.size f cdv)) → sp vs H Q E →
      ∃ t, PSs (cxOf CX P w K mg base N x (defScope st) f cdv A outer s H E) (defBody st) t ∧ t { nx := fun _ H' => Q .non H', rt := Q } (start N vs) H) : Ok P w K mg base CX (k + 1) x ps sp := by
  obtain ⟨f, fd, F, b, g⟩ := D
  exact ⟨f, fd, fn_g F S len fun cdv A outer s H vs Q E hg hr h => hb f cdv A outer s H vs Q E hg hr h, b, g, F.kp, fdAt_of F⟩
theorem Ok.imp {k : Nat} {ps : List Str} {sp sp' : Sp} (G : Ok P w K mg base CX k x ps sp) (h : ∀ vs H Q E, sp' vs H Q E → sp vs H Q E) : Ok P w K mg base CX k x ps sp' := by
  obtain ⟨f, fd, F, b, g, kp⟩ := G
  exact ⟨f, fd, F.imp h, b, g, kp⟩
end
section
variable {X : Cx} {CX : CXT} {k : Nat} {x : Str} {ps : List Str} {sp : Sp} {E : XK} {p pos : Pos} {e : Expr} {es : List Expr} {t : TA}
theorem run_g {f : Addr} {fd : FuncData} {pins : List (Addr × Obj)} {σ : L2.St} {H : Hp} {st : Shared} {Q : VK} {us : List Value} {vs : List V} (F : FnG X.prog X.w X.K X.mg X.base CX k f fd ps sp) (hg : X.A.guards = some []) (hr : Room k X.A) (hb : Binds X.K fd ps []) (hx : Passes CX X E)
    (I : Inv X pins σ H st) (r : Vals vs us) (h : sp vs H Q E) : wpAny (model X.prog X.w) X.A (call (.ref f) us) (EP X pins σ Q) X.xe st := by
  have hn : (us ++ []).length = ps.length := by rw [List.append_nil, ← r.length]; exact F.len _ _ _ _ h
  have hbt : BindsTo st fd ⟨us, []⟩ (ps.zip us) := by
    have z := hb st us I.kIn hn
    rw [List.append_nil] at z
    exact z
  refine wpAny_call (codeAny_mono (F.run X.A X.stack st H ⟨us, []⟩ us vs Q E hg hr I.env0 hbt r h) fun res s2 hq => ?_)
  cases res with
  | error err => exact hx pins σ H st err s2 I hq
  | ok fl =>
    cases fl with
    | ret u => exact I.after hq
    | next => exact hq.elim
    | brk => exact hq.elim
    | cont => exact hq.elim
/-- f(e, ..): what sp asks of the arguments -/
def tCl (sp : Sp) (E : XK) (t : TA) : TE := fun σ H Q => t σ H fun vs H1 => sp vs H1 Q E
theorem pe_callX (G : Ok X.prog X.w X.K X.mg X.base CX k x ps sp) (hgd : X.A.guards = some []) (hr : Room k X.A) (hx : Passes CX X E) (ha : PA X (e :: es) t) (hg : Gl X x := by rfl)
    (hdb : (x == ("__debug__" : Str)) = false := by decide) (he : starEach (e :: es) X.env = (false, eval e X.env) :: starEach es X.env := by rfl) (hpl : (backTo pos (starEach es X.env)).any (·.1) = false := by rfl) :
    PE X (.Call (.Name x p) (e :: es) [] pos) (tCl sp E t) := by
  obtain ⟨f, fd, F, hb, hm, hk, _⟩ := G
  refine ⟨fun pins st σ H Q I h => ?_⟩
  refine wpAny_Call_Name_kw (ld_glob I hg hm ?_ hdb)
  refine PySem.W.callWith_K (h₀ := X.base) I.ok.mod.kin hk (thn (ha.run pos pins st σ H _ I h) fun us s2 ⟨vs, H2, I2, rv, q⟩ => ⟨I2.kIn, run_g F hgd hr hb hx I2 rv q⟩) he hpl
theorem pe_callO (G : Ok X.prog X.w X.K X.mg X.base CX0 k x ps sp) (hgd : X.A.guards = some []) (hr : Room k X.A) (ha : PA X (e :: es) t) (hg : Gl X x := by rfl)
    (hdb : (x == ("__debug__" : Str)) = false := by decide) (he : starEach (e :: es) X.env = (false, eval e X.env) :: starEach es X.env := by rfl) (hpl : (backTo pos (starEach es X.env)).any (·.1) = false := by rfl) :
    PE X (.Call (.Name x p) (e :: es) [] pos) (tCl sp E0 t) := pe_callX G hgd hr pass0 ha hg hdb he hpl
/-! ### f(k = v, ..), every parameter by its name: idx puts the written values in the parameters' order -/
def ordG {α : Type} (idx : List Nat) (l : List α) : List α := idx.filterMap (l[·]?)
theorem ord_rel {idx : List Nat} {zs : List V} {ws : List Value} (r : Vals zs ws) : Vals (ordG idx zs) (ordG idx ws) := by
  unfold ordG
  induction idx with
  | nil => exact .nil
  | cons i idx ih =>
    cases hz : zs[i]? with
    | none =>
      rw [List.filterMap_cons_none hz, List.filterMap_cons_none (Vals.none_of r hz)]
      exact ih
    | some z =>
      obtain ⟨u, hu, rz⟩ := Vals.get r hz
      rw [List.filterMap_cons_some hz, List.filterMap_cons_some hu]
      exact .cons rz ih
def KbAt (K : PySem.W.Frag) (mg : Str → Option Value) (x : Str) (ps ks : List Str) (idx : List Nat) : Prop :=
  ∃ f fd, mg x = some (.ref f) ∧ FdAt K f fd ∧ ∀ ws : List Value, ws.length = ks.length → bindArgs fd ⟨[], ks.zip ws⟩ = pure (ps.zip (ordG idx ws))
theorem KbAt.of {K : PySem.W.Frag} {mg : Str → Option Value} {x : Str} {st : Stmt} {f : Addr} {fd : FuncData} {ps ks : List Str} {idx : List Nat} (F : FnP K x st f fd) (hm : mg x = some (.ref f))
    (h : ∀ (kV doc pm : Value) (an : Option Addr) (cdv ct : Value) (ws : List Value), ws.length = ks.length → bindArgs (PySem.W.fnOf x x (defArgs st) (defBody st) (defScope st) .none kV doc pm an cdv ct) ⟨[], ks.zip ws⟩ = pure (ps.zip (ordG idx ws))) : KbAt K mg x ps ks idx := by
  refine ⟨f, fd, hm, fdAt_of F, ?_⟩
  obtain ⟨_, _, dV, kV, doc, pm, an, cdv, ct, _, rfl, _, _, hD, _⟩ := F.ex
  rcases hD with ⟨_, rfl⟩ | ⟨e, _⟩
  · exact h kV doc pm an cdv ct
  · exact absurd rfl e
def tClK (sp : Sp) (n : Nat) (idx : List Nat) (E : XK) (tk : TA) : TE := fun σ H Q => tk σ H fun zs H1 => zs.length = n ∧ sp (ordG idx zs) H1 Q E
theorem pe_callKX {kws : List Keyword} {ks : List Str} {idx : List Nat} {tk : TA} (G : Ok X.prog X.w X.K X.mg X.base CX k x ps sp) (kb : KbAt X.K X.mg x ps ks idx) (hgd : X.A.guards = some []) (hr : Room k X.A) (hx : Passes CX X E) (hkw : PK X kws tk) (hg : Gl X x := by rfl)
    (hall : (backToKw pos (keywordEach kws X.env)).all (·.1.isSome) = true := by rfl) (hks : (backToKw pos (keywordEach kws X.env)).filterMap (·.1) = ks := by rfl) (hdb : (x == ("__debug__" : Str)) = false := by decide)
    (hpl : ((backTo pos (starEach [] X.env)).any (·.1) || (backToKw pos (keywordEach kws X.env)).any (·.1.isNone)) = false := by rfl) : PE X (.Call (.Name x p) [] kws pos) (tClK sp ks.length idx E tk) := by
  obtain ⟨f, fd, F, _, hm, hk, fa⟩ := G
  obtain ⟨f2, fe, hm2, fb, bind⟩ := kb
  obtain rfl : f = f2 := by
    rw [hm] at hm2
    cases hm2
    rfl
  obtain rfl := fdAt_eq fa fb
  constructor
  intro pins st σ H Q I want
  apply wpAny_Call_Name_kw
  apply ld_glob I hg hm ?_ hdb
  refine PySem.W.callWith_KW0 (h₀ := X.base) I.ok.mod.kin hk hall ?_ hpl
  · apply thn (hkw.run pos pins st σ H _ I want)
    rintro ws s2 ⟨zs, H2, I2, rz, hlen, sat⟩
    refine ⟨I2.kIn, ?_⟩
    rw [hks]
    have r2 : Vals (ordG idx zs) (ordG idx ws) := ord_rel rz
    have hl2 : ws.length = ks.length := by rw [← rz.length, hlen]
    show wpAny (model X.prog X.w) X.A (call (.ref f) [] (ks.zip ws)) (EP X pins σ Q) X.xe s2
    refine wpAny_call (codeAny_mono (F.run X.A X.stack s2 H2 ⟨[], ks.zip ws⟩ (ordG idx ws) (ordG idx zs) Q E hgd hr I2.env0 (.of_eq (bind ws hl2)) r2 sat) fun res s3 hq => ?_)
    cases res with
    | error err => exact hx pins σ H2 s2 err s3 I2 hq
    | ok fl =>
      cases fl with
      | ret u => exact I2.after hq
      | next => exact hq.elim
      | brk => exact hq.elim
      | cont => exact hq.elim
theorem pe_callKO {kws : List Keyword} {ks : List Str} {idx : List Nat} {tk : TA} (G : Ok X.prog X.w X.K X.mg X.base CX0 k x ps sp) (kb : KbAt X.K X.mg x ps ks idx) (hgd : X.A.guards = some []) (hr : Room k X.A) (hkw : PK X kws tk) (hg : Gl X x := by rfl)
    (hall : (backToKw pos (keywordEach kws X.env)).all (·.1.isSome) = true := by rfl) (hks : (backToKw pos (keywordEach kws X.env)).filterMap (·.1) = ks := by rfl) (hdb : (x == ("__debug__" : Str)) = false := by decide)
    (hpl : ((backTo pos (starEach [] X.env)).any (·.1) || (backToKw pos (keywordEach kws X.env)).any (·.1.isNone)) = false := by rfl) : PE X (.Call (.Name x p) [] kws pos) (tClK sp ks.length idx E0 tk) := pe_callKX G kb hgd hr pass0 hkw hg hall hks hdb hpl
/-- constants of the module, built-in types as values -/
theorem pe_gint {i : Int} (h : ∃ t, X.mg x = some (.int i t)) (hg : Gl X x := by rfl) (hd : (x == ("__debug__" : Str)) = false := by decide) : PE X (.Name x pos) (tC (.int i)) := by
  obtain ⟨t, ht⟩ := h
  exact pe_glob hg ht ⟨t, rfl⟩ hd
theorem pe_gstr {z : Str} (h : ∃ t, X.mg x = some (.str z t)) (hg : Gl X x := by rfl) (hd : (x == ("__debug__" : Str)) = false := by decide) : PE X (.Name x pos) (tC (.str z)) := by
  obtain ⟨t, ht⟩ := h
  exact pe_glob hg ht ⟨t, rfl⟩ hd
theorem pe_gty {T : String} (hm : X.mg x = none) (hv : bootBuiltins x = some (.type T)) (hg : Gl X x := by rfl) (hn : x ≠ "__name__" := by decide) (hd : (x == ("__debug__" : Str)) = false := by decide) : PE X (.Name x pos) (tC (.ty T)) :=
  pe_bltn hg hm hv rfl hn hd
end
/-! ### a list or a tuple, walked -/
def Sq (K : PySem.W.Frag) (H : Hp) (a : Addr) (xs : List V) : Prop := SqL K H a xs ∨ SqT K H a xs
def iSeq (K : PySem.W.Frag) (tl : TE) : TI := fun σ H R => tl σ H fun x H1 => ∃ a, x = .ref a ∧ (((∃ xs, SqL K H1 a xs) ∧ R (Itl K a) H1) ∨ ((∃ xs, SqT K H1 a xs) ∧ R (Itt K a) H1))
theorem pi_seq {X : Cx} {tg l : Expr} {tl : TE} (hl : PE X l tl) : PI X tg l (iSeq X.K tl) := by
  refine ⟨fun pins st σ H R I h => ?_⟩
  refine thn (hl.run pins st σ H _ I h) fun v s2 ⟨x, H2, I2, rx, a, ex, q⟩ => ?_
  subst ex
  cases rx
  have fresh : ∀ b ∈ [s2.heap.objs.size], FpOk X pins H2 b := fun b hb => by
    obtain rfl := List.mem_singleton.mp hb
    exact I2.fpOk (Nat.le_refl _) (I2.hok.fresh (Nat.le_refl _))
  rcases q with ⟨⟨xs, hq⟩, qr⟩ | ⟨⟨xs, hq⟩, qr⟩
  · obtain ⟨its, rv, pl, _⟩ := I2.list hq
    exact wpAny_pyIter_list pl.isList ⟨s2.heap.objs.size, [s2.heap.objs.size], _, _, H2, rfl, I2.kept (t' := s2.toks) fun b o e => Heap.get?_push_of_some _ e, turn_list a _, ⟨_, Heap.get?_push_size _ rfl, rfl, rfl⟩, fresh, qr⟩
  · obtain ⟨its, rv, pl, _⟩ := I2.tuple hq
    exact wpAny_pyIter_tuple (show s2.heap.IsTuple a its.toArray from pl) ⟨s2.heap.objs.size, [s2.heap.objs.size], _, _, H2, rfl, I2.kept (t' := s2.toks) fun b o e => Heap.get?_push_of_some _ e, turn_tuple a _, ⟨_, Heap.get?_push_size _ rfl, rfl, rfl⟩, fresh, qr⟩
/-! ### heaps: a new object, a changed one -/
theorem new_ {o : HO} {H : Hp} {Q : VK} (h : ∀ p H', H p = none → Ex H H' → H' p = some o → Q (.ref p) H') : ∀ p, H p = none → Q (.ref p) (upd H p o) := fun p np => h p _ np (Ex.new np) upd_same
/-- all but p is as it was -/
def Mu (p : Addr) (H H' : Hp) : Prop := ∀ q, q ≠ p → H' q = H q
theorem mut_ {o' : HO} {H : Hp} {p : Addr} {G : Hp → Prop} (h : ∀ H', Mu p H H' → H' p = some o' → G H') : G (upd H p o') := h _ (fun q hq => upd_ne hq) upd_same
theorem Mu.ex {Hb H H' : Hp} {p : Addr} (m : Mu p H H') (e : Ex Hb H) (np : Hb p = none) : Ex Hb H' := fun q o h => by
  rw [m q (ne_of_none h np)]
  exact e q o h
theorem Mu.at {H H' : Hp} {p q : Addr} {o : HO} (m : Mu p H H') (h : H q = some o) (hn : q ≠ p) : H' q = some o := by
  rw [m q hn]
  exact h
theorem ne_free {H : Hp} {a b : Addr} {o : HO} (h : H a = some o) (h' : H b = none) : b ≠ a := fun e => ne_of_none h h' e.symm
theorem ex_d {H H' : Hp} {a : Addr} {o : HO} (e : Ex H H') (h : H a = some o) : H' a = some o := e a o h
theorem ex_sq {K : PySem.W.Frag} {H H' : Hp} {a : Addr} {xs : List V} (e : Ex H H') (h : Sq K H a xs) : Sq K H' a xs := h.elim (fun q => .inl (ex_l e q)) fun q => .inr (ex_t e q)
/-! ### data -/
mutual
theorem dp_ex {K : PySem.W.Frag} {H H' : Hp} (e : Ex H H') : ∀ {v : V} {d : PyData}, Dp K H v d → Dp K H' v d
  | _, _, .non => .non
  | _, _, .bl b => .bl b
  | _, _, .int i => .int i
  | _, _, .str x => .str x
  | _, _, .lst h ha => .lst (ex_l e h) (dpa_ex e ha)
  | _, _, .tup h ha => .tup (ex_t e h) (dpa_ex e ha)
theorem dpa_ex {K : PySem.W.Frag} {H H' : Hp} (e : Ex H H') : ∀ {vs : List V} {ds : List PyData}, DpAll K H vs ds → DpAll K H' vs ds
  | _, _, .nil => .nil
  | _, _, .cons h t => .cons (dp_ex e h) (dpa_ex e t)
end
section
variable {K : PySem.W.Frag} {H : Hp} {v : V} {vs : List V} {d : PyData} {ds : List PyData}
theorem dp_int {i : Int} (h : Dp K H v (.int i)) : v = .int i := by cases h; rfl
theorem dp_str {x : Str} (h : Dp K H v (.str x)) : v = .str x := by cases h; rfl
theorem dp_bl {b : Bool} (h : Dp K H v (.bool b)) : v = .bl b := by cases h; rfl
theorem dp_non (h : Dp K H v .none) : v = .non := by cases h; rfl
theorem dp_tup (h : Dp K H v (.tuple ds)) : ∃ a xs, v = .ref a ∧ SqT K H a xs ∧ DpAll K H xs ds := by
  cases h with
  | tup h1 h2 => exact ⟨_, _, rfl, h1, h2⟩
theorem dp_lst (h : Dp K H v (.list ds)) : ∃ a xs, v = .ref a ∧ SqL K H a xs ∧ DpAll K H xs ds := by
  cases h with
  | lst h1 h2 => exact ⟨_, _, rfl, h1, h2⟩
theorem dpa_len : ∀ {vs : List V} {ds : List PyData}, DpAll K H vs ds → vs.length = ds.length
  | _, _, .nil => rfl
  | _, _, .cons _ t => congrArg Nat.succ (dpa_len t)
theorem dpa_get : ∀ {vs : List V} {ds : List PyData} {i : Nat} {v : V}, DpAll K H vs ds → vs[i]? = some v → ∃ d, ds[i]? = some d ∧ Dp K H v d
  | _, _, _, _, .nil, e => by simp at e
  | _, _, 0, _, .cons h _, e => by
    obtain rfl := Option.some.inj e
    exact ⟨_, rfl, h⟩
  | _, _, i + 1, _, .cons _ t, e => dpa_get (i := i) t e
theorem dpa_at : ∀ {vs : List V} {ds : List PyData} {i : Nat} {d : PyData}, DpAll K H vs ds → ds[i]? = some d → ∃ v, vs[i]? = some v ∧ Dp K H v d
  | _, _, _, _, .nil, e => by simp at e
  | _, _, 0, _, .cons h _, e => by
    obtain rfl := Option.some.inj e
    exact ⟨_, rfl, h⟩
  | _, _, i + 1, _, .cons _ t, e => dpa_at (i := i) t e
theorem dpa_app : ∀ {vs ws : List V} {ds es : List PyData}, DpAll K H vs ds → DpAll K H ws es → DpAll K H (vs ++ ws) (ds ++ es)
  | _, _, _, _, .nil, h => h
  | _, _, _, _, .cons h t, h2 => .cons h (dpa_app t h2)
theorem dpa_one (h : Dp K H v d) : DpAll K H [v] [d] := .cons h .nil
theorem dpa_strs : ∀ (ws : List Str), DpAll K H (ws.map V.str) (ws.map PyData.str)
  | [] => .nil
  | w :: ws => .cons (.str w) (dpa_strs ws)
theorem dpa_ints : ∀ (ns : List Int), DpAll K H (ns.map V.int) (ns.map PyData.int)
  | [] => .nil
  | n :: ns => .cons (.int n) (dpa_ints ns)
theorem dpa_bls : ∀ (bs : List Bool), DpAll K H (bs.map V.bl) (bs.map PyData.bool)
  | [] => .nil
  | n :: ns => .cons (.bl n) (dpa_bls ns)
theorem strs_dpa : ∀ {vs : List V} {ws : List Str}, DpAll K H vs (ws.map PyData.str) → vs = ws.map V.str
  | [], [], _ => rfl
  | _ :: _, [], h => nomatch h
  | [], _ :: _, h => nomatch h
  | v :: vs, w :: ws, h => by
    cases h with
    | cons h t => rw [dp_str h, strs_dpa t]; rfl
theorem ints_dpa : ∀ {vs : List V} {ws : List Int}, DpAll K H vs (ws.map PyData.int) → vs = ws.map V.int
  | [], [], _ => rfl
  | _ :: _, [], h => nomatch h
  | [], _ :: _, h => nomatch h
  | v :: vs, w :: ws, h => by
    cases h with
    | cons h t => rw [dp_int h, ints_dpa t]; rfl
theorem bls_dpa : ∀ {vs : List V} {ws : List Bool}, DpAll K H vs (ws.map PyData.bool) → vs = ws.map V.bl
  | [], [], _ => rfl
  | _ :: _, [], h => nomatch h
  | [], _ :: _, h => nomatch h
  | v :: vs, w :: ws, h => by
    cases h with
    | cons h t => rw [dp_bl h, bls_dpa t]; rfl
abbrev strsT (ws : List Str) : PyData := .tuple (ws.map PyData.str)
abbrev strsL (ws : List Str) : PyData := .list (ws.map PyData.str)
theorem dpT {a : Addr} {ws : List Str} (h : SqT K H a (ws.map V.str)) : Dp K H (.ref a) (strsT ws) := .tup h (dpa_strs ws)
theorem dpL {a : Addr} {ws : List Str} (h : SqL K H a (ws.map V.str)) : Dp K H (.ref a) (strsL ws) := .lst h (dpa_strs ws)
theorem dp_strsT {ws : List Str} (h : Dp K H v (strsT ws)) : ∃ a, v = .ref a ∧ SqT K H a (ws.map V.str) := by
  obtain ⟨a, xs, rfl, h1, h2⟩ := dp_tup h
  rw [strs_dpa h2] at h1
  exact ⟨a, rfl, h1⟩
theorem dp_strsL {ws : List Str} (h : Dp K H v (strsL ws)) : ∃ a, v = .ref a ∧ SqL K H a (ws.map V.str) := by
  obtain ⟨a, xs, rfl, h1, h2⟩ := dp_lst h
  rw [strs_dpa h2] at h1
  exact ⟨a, rfl, h1⟩
mutual
/-- data in which no list stands: what a list's change leaves -/
def noList : PyData → Bool
  | .tuple ds => noLists ds
  | .list _ => false
  | _ => true
def noLists : List PyData → Bool
  | [] => true
  | d :: ds => noList d && noLists ds
end
theorem sqT_mu {a p : Addr} {xs : List V} {H' : Hp} {ys : List V} (m : Mu p H H') (hp : H p = some (.lst ys)) (h : SqT K H a xs) : SqT K H' a xs := by
  rcases h with (h | ⟨o, h⟩) | h
  · exact .inl (.inl (m.at h (ne_of h hp (fun z => nomatch z))))
  · exact .inl (.inr ⟨o, m.at h (ne_of h hp (fun z => nomatch z))⟩)
  · exact .inr h
mutual
theorem dp_mu {H' : Hp} {p : Addr} {ys : List V} (m : Mu p H H') (hp : H p = some (.lst ys)) : ∀ {v : V} {d : PyData}, noList d = true → Dp K H v d → Dp K H' v d
  | _, _, _, .non => .non
  | _, _, _, .bl b => .bl b
  | _, _, _, .int i => .int i
  | _, _, _, .str x => .str x
  | _, _, n, .lst h ha => nomatch (show false = true from n)
  | _, _, n, .tup h ha => .tup (sqT_mu m hp h) (dpa_mu m hp n ha)
theorem dpa_mu {H' : Hp} {p : Addr} {ys : List V} (m : Mu p H H') (hp : H p = some (.lst ys)) : ∀ {vs : List V} {ds : List PyData}, noLists ds = true → DpAll K H vs ds → DpAll K H' vs ds
  | _, _, _, .nil => .nil
  | _, _, n, .cons h t => .cons (dp_mu m hp (Bool.and_eq_true_iff.mp n).1 h) (dpa_mu m hp (Bool.and_eq_true_iff.mp n).2 t)
end
theorem noLists_app : ∀ {ds es : List PyData}, noLists ds = true → noLists es = true → noLists (ds ++ es) = true
  | [], _, _, h => h
  | d :: ds, es, h, h2 => by
    obtain ⟨h3, h4⟩ := Bool.and_eq_true_iff.mp (show (noList d && noLists ds) = true from h)
    show (noList d && noLists (ds ++ es)) = true
    rw [h3, noLists_app h4 h2]
    rfl
theorem noLists_of : ∀ {ds : List PyData}, (∀ d ∈ ds, noList d = true) → noLists ds = true
  | [], _ => rfl
  | d :: ds, h => by
    show (noList d && noLists ds) = true
    rw [h d (List.mem_cons_self ..), noLists_of fun e he => h e (List.mem_cons_of_mem _ he)]
    rfl
/-- the book of some windows of n letters -/
abbrev bookD (n : Int) (ws : List Str) : PyData := .tuple [.int n, strsT ws]
theorem dp_book {n : Int} {ws : List Str} (h : Dp K H v (bookD n ws)) : ∃ a t, v = .ref a ∧ SqT K H a [.int n, .ref t] ∧ SqT K H t (ws.map V.str) := by
  obtain ⟨a, xs, rfl, h1, h2⟩ := dp_tup h
  cases h2 with
  | cons h3 h4 =>
    cases h4 with
    | cons h5 h6 =>
      cases h6
      obtain ⟨t, rfl, h7⟩ := dp_strsT h5
      rw [dp_int h3] at h1
      exact ⟨a, t, rfl, h1, h7⟩
theorem bookDp {n : Int} {ws : List Str} {a t : Addr} (h : SqT K H a [.int n, .ref t]) (h2 : SqT K H t (ws.map V.str)) : Dp K H (.ref a) (bookD n ws) := .tup h (.cons (.int n) (.cons (dpT h2) .nil))
theorem tyT {a : Addr} {xs : List V} (h : SqT K H a xs) : TyX K H (.ref a) (.type "tuple") := by
  rcases h with (h | ⟨o, h⟩) | ⟨o, its, n, h, hc, _⟩
  · exact .base (.tup h)
  · exact .fTuple h
  · exact .kTuple h hc
theorem tyL {a : Addr} {xs : List V} (h : SqL K H a xs) : TyX K H (.ref a) (.type "list") := by
  rcases h with (h | ⟨o, h⟩) | ⟨o, its, n, h, hc, _⟩
  · exact .base (.lst h)
  · exact .base (.frz h)
  · exact .kList h hc
end
/-- what may be reckoned as some data behind: te gives such a value, all that was tracked stands -/
def Gv (K : PySem.W.Frag) (te : TE) (σ : L2.St) (H : Hp) (d : PyData) : Prop := ∀ Q : VK, (∀ v H', Ex H H' → Dp K H' v d → Q v H') → te σ H Q
/-- promises: a value, some data, told; nothing else changed -/
def RetD (K : PySem.W.Frag) (d : PyData) (H : Hp) (Q : VK) : Prop := ∀ v H', Ex H H' → Dp K H' v d → Q v H'
theorem RetD.str {K : PySem.W.Frag} {x : Str} {H : Hp} {Q : VK} (k : RetD K (.str x) H Q) {H' : Hp} (e : Ex H H') : Q (.str x) H' := k _ _ e (.str x)
/-! ### what is walked -/
structure Src (J : It) (Hb : Hp) (n : Nat) (item : Nat → V → Hp → Prop) : Prop where
  go : ∀ i H2, Ex Hb H2 → i < n → J.go i H2
  stop : ∀ i H2, Ex Hb H2 → n ≤ i → J.stop i H2
  yld : ∀ i H2 x H3, Ex Hb H2 → i < n → J.yld i H2 x H3 → Ex H2 H3 ∧ item i x H3
theorem src_list {K : PySem.W.Frag} {Hb : Hp} {a : Addr} {xs : List V} (h : SqL K Hb a xs) : Src (Itl K a) Hb xs.length (fun i x _ => xs[i]? = some x) :=
  ⟨fun i H2 e hi => ⟨xs, xs[i], ex_l e h, List.getElem?_eq_getElem hi⟩, fun i H2 e hi => ⟨xs, ex_l e h, hi⟩, fun i H2 x H3 e _ y => by
    obtain ⟨rfl, y⟩ := y
    exact ⟨Ex.refl _, y xs (ex_l e h)⟩⟩
theorem src_tup {K : PySem.W.Frag} {Hb : Hp} {a : Addr} {xs : List V} (h : SqT K Hb a xs) : Src (Itt K a) Hb xs.length (fun i x _ => xs[i]? = some x) :=
  ⟨fun i H2 e hi => ⟨xs, xs[i], ex_t e h, List.getElem?_eq_getElem hi⟩, fun i H2 e hi => ⟨xs, ex_t e h, hi⟩, fun i H2 x H3 e _ y => by
    obtain ⟨rfl, y⟩ := y
    exact ⟨Ex.refl _, y xs (ex_t e h)⟩⟩
theorem src_rng {Hb : Hp} {lo : Int} {n : Nat} : Src (Itr lo n) Hb n (fun i x _ => x = .int (lo + (i : Int))) :=
  ⟨fun i H2 _ hi => hi, fun i H2 _ hi => hi, fun i H2 x H3 _ _ y => by
    obtain ⟨rfl, y⟩ := y
    exact ⟨Ex.refl _, y⟩⟩
theorem src_str {Hb : Hp} {x : Str} : Src (Its x) Hb x.cps.size (fun i v _ => ∃ c, x.cps[i]? = some c ∧ v = .str ⟨#[c]⟩) :=
  ⟨fun i H2 _ hi => hi, fun i H2 _ hi => hi, fun i H2 v H3 _ _ y => by
    obtain ⟨rfl, y⟩ := y
    exact ⟨Ex.refl _, y⟩⟩
/-- a for over such -/
theorem for_src {J : It} {Hb : Hp} {n : Nat} {item : Nat → V → Hp → Prop} {g : TG} {tb : TS} {D : Ends} {σ : L2.St} {H : Hp} (S : Src J Hb n item) (Pv : Nat → L2.St → Hp → Prop) (h0 : Pv 0 σ H) (hE : ∀ i σ H, Pv i σ H → Ex Hb H)
    (hs : ∀ i x σ H H2, i < n → Pv i σ H → Ex H H2 → item i x H2 → g x σ H2 fun σ2 H3 => tb { D with nx := Pv (i + 1), ct := Pv (i + 1), bk := D.nx } σ2 H3) (hd : ∀ σ H, Pv n σ H → D.nx σ H) :
    ∃ W : Nat → Nat → L2.St → Hp → Prop, (∃ m, W 0 m σ H) ∧ ∀ i m σ H, W i m σ H →
      (J.stop i H ∧ D.nx σ H) ∨ (J.go i H ∧ ∃ N : L2.St → Hp → Prop, (∀ σ' H', N σ' H' → ∃ m', m' < m ∧ W (i + 1) m' σ' H') ∧ ∀ x H', J.yld i H x H' → g x σ H' fun σ2 H2 => tb { D with nx := N, ct := N, bk := D.nx } σ2 H2) := by
  refine ⟨fun i m σ H => m = n - i ∧ i ≤ n ∧ Pv i σ H, ⟨n, by simp, Nat.zero_le _, h0⟩, ?_⟩
  rintro i m σ H ⟨rfl, hi, pv⟩
  have e := hE i σ H pv
  by_cases hlt : i < n
  · refine .inr ⟨S.go i H e hlt, Pv (i + 1), fun σ' H' p' => ⟨n - (i + 1), by omega, rfl, hlt, p'⟩, fun x H' y => ?_⟩
    obtain ⟨e2, it⟩ := S.yld i H x H' e hlt y
    exact hs i x σ H H' hlt pv e2 it
  · obtain rfl : i = n := by omega
    exact .inl ⟨S.stop i H e (Nat.le_refl _), hd σ H pv⟩
/-- a comprehension over such: which turns give, what they give -/
def givenD (n : Nat) (f : Nat → Bool) (F : Nat → PyData) : List PyData := ((List.range n).filter f).map F
theorem givenD_yes {n : Nat} {f : Nat → Bool} {F : Nat → PyData} (h : f n = true) : givenD (n + 1) f F = givenD n f F ++ [F n] := by
  unfold givenD
  rw [List.range_succ, List.filter_append, List.map_append, List.filter_cons, if_pos h]
  rfl
theorem givenD_no {n : Nat} {f : Nat → Bool} {F : Nat → PyData} (h : f n = false) : givenD (n + 1) f F = givenD n f F := by
  unfold givenD
  rw [List.range_succ, List.filter_append, List.map_append, List.filter_cons, if_neg (by rw [h]; decide)]
  exact List.append_nil _
theorem givenD_len (n : Nat) (f : Nat → Bool) (F : Nat → PyData) : (givenD n f F).length ≤ n := by
  unfold givenD
  rw [List.length_map]
  have h := List.length_filter_le f (List.range n)
  rwa [List.length_range] at h
theorem lc_src {K : PySem.W.Frag} {J : It} {H1 : Hp} {n : Nat} {item : Nat → V → Hp → Prop} {g : TG} {tt : TT} {te : TE} {vs : List Nat} {σ : L2.St} {D : Addr} {Qd : Hp → Prop} (S : Src J H1 n item) (hn : n ≤ 1000000) (f : Nat → Bool) (F : Nat → PyData) (nl : ∀ i, i < n → noList (F i) = true) (np : H1 D = none)
    (hs : ∀ (i : Nat) (x : V) (H2 : Hp) (Y : VK) (Z : Hp → Prop), i < n → Ex H1 H2 → item i x H2 → (f i = true → ∀ y H3, Ex H2 H3 → Dp K H3 y (F i) → Y y H3) → (f i = false → ∀ H3, Ex H2 H3 → Z H3) →
      g x (wipe σ vs) H2 fun σ2 H3 => wipe σ2 vs = wipe σ vs ∧ tt σ2 H3 fun b H4 => if b = true then te σ2 H4 Y else Z H4)
    (hd : ∀ H' acc, Ex H1 H' → H' D = some (.lst acc) → DpAll K H' acc (givenD n f F) → Qd H') :
    ∃ W : Nat → Nat → Hp → Prop, (∃ m, W 0 m (upd H1 D (.lst []))) ∧ ∀ i m H, W i m H →
      (J.stop i H ∧ Qd H) ∨ (J.go i H ∧ ∃ Nx : Hp → Prop, (∀ H', Nx H' → ∃ m', m' < m ∧ W (i + 1) m' H') ∧ ∀ x H', J.yld i H x H' → g x (wipe σ vs) H' fun σ2 H2 => wipe σ2 vs = wipe σ vs ∧ tt σ2 H2 fun b H3 =>
        if b = true then te σ2 H3 fun y H4 => ∃ acc, H4 D = some (.lst acc) ∧ acc.length < sizeLine ∧ Nx (upd H4 D (.lst (acc ++ [y]))) else Nx H3) := by
  have big : 1000000 < sizeLine := by decide
  -- behind i turns
  let Pv : Nat → Hp → Prop := fun i H => Ex H1 H ∧ ∃ acc, H D = some (.lst acc) ∧ DpAll K H acc (givenD i f F)
  refine ⟨fun i m H => m = n - i ∧ i ≤ n ∧ Pv i H, ⟨n, by simp, Nat.zero_le _, Ex.new np, [], upd_same, .nil⟩, ?_⟩
  rintro i m H ⟨rfl, hi, e, acc, hD, ha⟩
  by_cases hlt : i < n
  · refine .inr ⟨S.go i H e hlt, Pv (i + 1), fun H' p' => ⟨n - (i + 1), by omega, rfl, hlt, p'⟩, fun x H' y => ?_⟩
    obtain ⟨e2, it⟩ := S.yld i H x H' e hlt y
    refine hs i x H' _ _ hlt (e.trans e2) it (fun hf z H6 e6 hz => ?_) (fun hf H5 e5 => ?_)
    · have e46 : Ex H H6 := e2.trans e6
      have h6 : H6 D = some (.lst acc) := e46 _ _ hD
      have m6 : Mu D H6 (upd H6 D (.lst (acc ++ [z]))) := fun q hq => upd_ne hq
      refine ⟨acc, h6, ?_, Ex.mut (e.trans e46) np, acc ++ [z], upd_same, ?_⟩
      · have l1 := dpa_len ha
        have l2 := givenD_len i f F
        omega
      · rw [givenD_yes hf]
        have nl0 : noLists (givenD i f F) = true := noLists_of fun d hd => by
          obtain ⟨j, hj, rfl⟩ := List.mem_map.mp hd
          have hj2 := List.mem_range.mp (List.mem_filter.mp hj).1
          exact nl j (by omega)
        exact dpa_app (dpa_mu m6 h6 nl0 (dpa_ex e46 ha)) (dpa_one (dp_mu m6 h6 (nl i hlt) hz))
    · refine ⟨e.trans (e2.trans e5), acc, e5 _ _ (e2 _ _ hD), ?_⟩
      rw [givenD_no hf]
      exact dpa_ex (e2.trans e5) ha
  · obtain rfl : i = n := by omega
    exact .inl ⟨S.stop i H e (Nat.le_refl _), hd H acc e hD ha⟩
/-! the same by what is walked -/
section
variable {K : PySem.W.Frag} {H1 : Hp} {g : TG} {tt : TT} {te : TE} {vs : List Nat} {σ : L2.St} {D : Addr} {Qd : Hp → Prop}
abbrev LcTurn (K : PySem.W.Frag) (H1 : Hp) (n : Nat) (item : Nat → V → Hp → Prop) (g : TG) (tt : TT) (te : TE) (vs : List Nat) (σ : L2.St) (f : Nat → Bool) (F : Nat → PyData) : Prop :=
  ∀ (i : Nat) (x : V) (H2 : Hp) (Y : VK) (Z : Hp → Prop), i < n → Ex H1 H2 → item i x H2 → (f i = true → ∀ y H3, Ex H2 H3 → Dp K H3 y (F i) → Y y H3) → (f i = false → ∀ H3, Ex H2 H3 → Z H3) →
    g x (wipe σ vs) H2 fun σ2 H3 => wipe σ2 vs = wipe σ vs ∧ tt σ2 H3 fun b H4 => if b = true then te σ2 H4 Y else Z H4
abbrev LcEnd (K : PySem.W.Frag) (H1 : Hp) (n : Nat) (f : Nat → Bool) (F : Nat → PyData) (D : Addr) (Qd : Hp → Prop) : Prop :=
  ∀ H' acc, Ex H1 H' → H' D = some (.lst acc) → DpAll K H' acc (givenD n f F) → Qd H'
/-- what a comprehension's reading asks, J what is walked -/
abbrev LcGo (J : It) (H1 : Hp) (g : TG) (tt : TT) (te : TE) (vs : List Nat) (σ : L2.St) (D : Addr) (Qd : Hp → Prop) : Prop :=
  ∃ W : Nat → Nat → Hp → Prop, (∃ m, W 0 m (upd H1 D (.lst []))) ∧ ∀ i m H, W i m H →
      (J.stop i H ∧ Qd H) ∨ (J.go i H ∧ ∃ Nx : Hp → Prop, (∀ H', Nx H' → ∃ m', m' < m ∧ W (i + 1) m' H') ∧ ∀ x H', J.yld i H x H' → g x (wipe σ vs) H' fun σ2 H2 => wipe σ2 vs = wipe σ vs ∧ tt σ2 H2 fun b H3 =>
        if b = true then te σ2 H3 fun y H4 => ∃ acc, H4 D = some (.lst acc) ∧ acc.length < sizeLine ∧ Nx (upd H4 D (.lst (acc ++ [y]))) else Nx H3)
theorem lc_rng (K : PySem.W.Frag) {lo : Int} {n : Nat} (f : Nat → Bool) (F : Nat → PyData) (np : H1 D = none) (hn : n ≤ 1000000) (nl : ∀ i, i < n → noList (F i) = true) (hs : LcTurn K H1 n (fun i x _ => x = .int (lo + (i : Int))) g tt te vs σ f F) (hd : LcEnd K H1 n f F D Qd) : LcGo (Itr lo n) H1 g tt te vs σ D Qd := lc_src src_rng hn f F nl np hs hd
theorem lc_lst {a : Addr} {xs : List V} (h : SqL K H1 a xs) (f : Nat → Bool) (F : Nat → PyData) (np : H1 D = none) (hn : xs.length ≤ 1000000) (nl : ∀ i, i < xs.length → noList (F i) = true) (hs : LcTurn K H1 xs.length (fun i x _ => xs[i]? = some x) g tt te vs σ f F) (hd : LcEnd K H1 xs.length f F D Qd) : LcGo (Itl K a) H1 g tt te vs σ D Qd := lc_src (src_list h) hn f F nl np hs hd
theorem lc_tp {a : Addr} {xs : List V} (h : SqT K H1 a xs) (f : Nat → Bool) (F : Nat → PyData) (np : H1 D = none) (hn : xs.length ≤ 1000000) (nl : ∀ i, i < xs.length → noList (F i) = true) (hs : LcTurn K H1 xs.length (fun i x _ => xs[i]? = some x) g tt te vs σ f F) (hd : LcEnd K H1 xs.length f F D Qd) : LcGo (Itt K a) H1 g tt te vs σ D Qd := lc_src (src_tup h) hn f F nl np hs hd
theorem lc_st (K : PySem.W.Frag) {z : Str} (f : Nat → Bool) (F : Nat → PyData) (np : H1 D = none) (hn : z.cps.size ≤ 1000000) (nl : ∀ i, i < z.cps.size → noList (F i) = true) (hs : LcTurn K H1 z.cps.size (fun i v _ => ∃ c, z.cps[i]? = some c ∧ v = .str ⟨#[c]⟩) g tt te vs σ f F) (hd : LcEnd K H1 z.cps.size f F D Qd) : LcGo (Its z) H1 g tt te vs σ D Qd := lc_src src_str hn f F nl np hs hd
/-- a comprehension over a list or a tuple -/
theorem lc_sq {a : Addr} {xs : List V} {Qd : Addr → Hp → Prop} (h : Sq K H1 a xs) (f : Nat → Bool) (F : Nat → PyData) (hn : xs.length ≤ 1000000) (nl : ∀ i, i < xs.length → noList (F i) = true) (hs : LcTurn K H1 xs.length (fun i x _ => xs[i]? = some x) g tt te vs σ f F)
    (hd : ∀ D, H1 D = none → LcEnd K H1 xs.length f F D (Qd D)) :
    ((∃ xs, SqL K H1 a xs) ∧ ∀ D, H1 D = none → LcGo (Itl K a) H1 g tt te vs σ D (Qd D)) ∨ ((∃ xs, SqT K H1 a xs) ∧ ∀ D, H1 D = none → LcGo (Itt K a) H1 g tt te vs σ D (Qd D)) :=
  h.elim (fun q => .inl ⟨⟨_, q⟩, fun D np => lc_lst q f F np hn nl hs (hd D np)⟩) fun q => .inr ⟨⟨_, q⟩, fun D np => lc_tp q f F np hn nl hs (hd D np)⟩
/-- no test -/
theorem lc_yes {Y : VK} {Z : Hp → Prop} {H : Hp} (h : te σ H Y) : tYes σ H (fun b H4 => if b = true then te σ H4 Y else Z H4) := by
  show (if true = true then te σ H Y else Z H)
  exact iteT h
/-! for loops -/
abbrev FoGo (J : It) (g : TG) (tb : TS) (D : Ends) (σ : L2.St) (H : Hp) : Prop := ∃ W : Nat → Nat → L2.St → Hp → Prop, (∃ m, W 0 m σ H) ∧ ∀ i m σ H, W i m σ H →
      (J.stop i H ∧ D.nx σ H) ∨ (J.go i H ∧ ∃ N : L2.St → Hp → Prop, (∀ σ' H', N σ' H' → ∃ m', m' < m ∧ W (i + 1) m' σ' H') ∧ ∀ x H', J.yld i H x H' → g x σ H' fun σ2 H2 => tb { D with nx := N, ct := N, bk := D.nx } σ2 H2)
abbrev FoTurn (n : Nat) (item : Nat → V → Hp → Prop) (g : TG) (tb : TS) (D : Ends) (Pv : Nat → L2.St → Hp → Prop) : Prop :=
  ∀ i x σ H H2, i < n → Pv i σ H → Ex H H2 → item i x H2 → g x σ H2 fun σ2 H3 => tb { D with nx := Pv (i + 1), ct := Pv (i + 1), bk := D.nx } σ2 H3
variable {tb : TS} {Dn : Ends} {H Hb : Hp}
theorem fo_rng {lo : Int} {n : Nat} (Pv : Nat → L2.St → Hp → Prop) (h0 : Pv 0 σ H) (hs : ∀ i σ H, i < n → Pv i σ H → g (.int (lo + (i : Int))) σ H fun σ2 H3 => tb { Dn with nx := Pv (i + 1), ct := Pv (i + 1), bk := Dn.nx } σ2 H3) (hd : ∀ σ H, Pv n σ H → Dn.nx σ H) : FoGo (Itr lo n) g tb Dn σ H :=
  for_range Pv h0 hs hd
theorem fo_lst {a : Addr} {xs : List V} (h : SqL K Hb a xs) (Pv : Nat → L2.St → Hp → Prop) (h0 : Pv 0 σ H) (hE : ∀ i σ H, Pv i σ H → Ex Hb H) (hs : ∀ i x σ H, xs[i]? = some x → Pv i σ H → g x σ H fun σ2 H3 => tb { Dn with nx := Pv (i + 1), ct := Pv (i + 1), bk := Dn.nx } σ2 H3) (hd : ∀ σ H, Pv xs.length σ H → Dn.nx σ H) :
    (∃ ys, SqL K H a ys) ∧ FoGo (Itl K a) g tb Dn σ H := ⟨⟨_, ex_l (hE _ _ _ h0) h⟩, for_list Pv h0 (fun i σ H _ p => ex_l (hE i σ H p) h) hs hd⟩
theorem fo_tp {a : Addr} {xs : List V} (h : SqT K Hb a xs) (Pv : Nat → L2.St → Hp → Prop) (h0 : Pv 0 σ H) (hE : ∀ i σ H, Pv i σ H → Ex Hb H) (hs : ∀ i x σ H, xs[i]? = some x → Pv i σ H → g x σ H fun σ2 H3 => tb { Dn with nx := Pv (i + 1), ct := Pv (i + 1), bk := Dn.nx } σ2 H3) (hd : ∀ σ H, Pv xs.length σ H → Dn.nx σ H) :
    (∃ ys, SqT K H a ys) ∧ FoGo (Itt K a) g tb Dn σ H := ⟨⟨_, ex_t (hE _ _ _ h0) h⟩, for_tup Pv h0 (fun i σ H _ p => ex_t (hE i σ H p) h) hs hd⟩
theorem fo_sq {a : Addr} {xs : List V} (h : Sq K Hb a xs) (Pv : Nat → L2.St → Hp → Prop) (h0 : Pv 0 σ H) (hE : ∀ i σ H, Pv i σ H → Ex Hb H) (hs : ∀ i x σ H, xs[i]? = some x → Pv i σ H → g x σ H fun σ2 H3 => tb { Dn with nx := Pv (i + 1), ct := Pv (i + 1), bk := Dn.nx } σ2 H3) (hd : ∀ σ H, Pv xs.length σ H → Dn.nx σ H) :
    ((∃ ys, SqL K H a ys) ∧ FoGo (Itl K a) g tb Dn σ H) ∨ ((∃ ys, SqT K H a ys) ∧ FoGo (Itt K a) g tb Dn σ H) :=
  h.elim (fun q => .inl (fo_lst q Pv h0 hE hs hd)) fun q => .inr (fo_tp q Pv h0 hE hs hd)
end
/-! ### repr of data -/
structure Shw (d : PyData) : Prop where
  sh : d.showable = true
  nd : d.hasDict = false
  dp : d.depth ≤ 60
  sz : d.shown.length ≤ sizeLine
theorem cr_repr {X : Cx} (hgd : X.A.guards = some []) (hu : X.A.units + 64 < cLine) : CallR X (.builtin "repr") (fun xs H Q => ∃ v d, xs = [v] ∧ Dp X.K H v d ∧ Shw d ∧ Q (.str d.shown) H) := by
  intro pins st σ H xs us Q I r h
  obtain ⟨v, d, rfl, hd, hs, q⟩ := h
  obtain ⟨u, rfl, ru⟩ := vals1 r
  have big : ∀ a, u = .ref a → wpAny (model X.prog X.w) X.A (call (.builtin "repr") [u]) (EP X pins σ Q) X.xe st := by
    rintro a rfl
    obtain ⟨as, rd⟩ := Dp.reads I d v _ hd ru
    have hh := hs.nd
    refine repr_of_reads' rd hs.sh (fun z => by rw [hh] at z; cases z) hgd (by have := hs.dp; omega) (fun _ _ e => e) (fun h' t tk hk => ?_) hs.sz
    exact ⟨.str d.shown, H, I.kept (t' := tk) hk, ⟨_, rfl⟩, q⟩
  cases hd with
  | non => cases ru; exact P.repr_of_none ⟨.str _, H, I.tok _, ⟨_, rfl⟩, q⟩
  | bl b => cases ru; exact P.repr_of_bool ⟨.str _, H, I.tok _, ⟨_, rfl⟩, q⟩
  | int i =>
    obtain ⟨t, rfl⟩ := ru
    exact P.repr_of_int (of_decide_eq_true hs.sh) ⟨.str _, H, I.tok _, ⟨_, rfl⟩, q⟩
  | str x =>
    obtain ⟨t, rfl⟩ := ru
    exact P.repr_of_str ⟨.str _, H, I.tok _, ⟨_, rfl⟩, q⟩ hs.sz
  | lst _ _ => exact big _ ru
  | tup _ _ => exact big _ ru
/-! ### how long data is when it is shown -/
mutual
/-- texts of signs below 16 ^ 8, ints of at most 1900 bits, no dict; and a bound of what is shown -/
def tame : PyData → Bool
  | .none => true
  | .bool _ => true
  | .int i => decide (i.natAbs < 2 ^ 200)
  | .str x => x.cps.toList.all (fun c => decide (c < 128))
  | .list ds => tames ds
  | .tuple ds => tames ds
  | .dict _ => false
def tames : List PyData → Bool
  | [] => true
  | d :: ds => tame d && tames ds
end
mutual
def wide : PyData → Nat
  | .none => 4
  | .bool _ => 5
  | .int _ => 300
  | .str x => 10 * x.length + 2
  | .list ds => wides ds + 4
  | .tuple ds => wides ds + 4
  | .dict _ => 0
def wides : List PyData → Nat
  | [] => 0
  | d :: ds => wide d + 2 + wides ds
end
theorem textFrom_le : ∀ (ts : List Str) (k : Nat) (acc : Str), (textFrom k acc ts).length ≤ acc.length + (ts.map fun t => t.length + 2).sum
  | [], k, acc => Nat.le_refl _
  | t :: ts, k, acc => by
    have ih := textFrom_le ts (k + 1) (acc ++ (if k > 0 then ", " else "" : String) ++ t)
    have e1 : (acc ++ ((if k > 0 then ", " else "" : String) : Str) ++ t).length = acc.length + ((if k > 0 then ", " else "" : String) : Str).length + t.length := by
      show (acc.cps ++ _ ++ t.cps).size = _
      rw [Array.size_append, Array.size_append]
      rfl
    have e2 : ((if k > 0 then ", " else "" : String) : Str).length ≤ 2 := by split <;> decide
    show (textFrom (k + 1) _ ts).length ≤ _
    rw [List.map_cons, List.sum_cons]
    omega
theorem strLen_app (a b : Str) : (a ++ b).length = a.length + b.length := by
  show (a.cps ++ b.cps).size = _
  rw [Array.size_append]
  rfl
theorem join_le : ∀ (ts : List Str), (Str.join ", " ts).length ≤ (ts.map fun t => t.length + 2).sum
  | [] => Nat.le_refl _
  | [x] => by show x.length ≤ x.length + 2 + 0; omega
  | x :: y :: r => by
    have ih := join_le (y :: r)
    show (x ++ ", " ++ Str.join ", " (y :: r)).length ≤ _
    rw [strLen_app, strLen_app, List.map_cons, List.sum_cons]
    have e : (((", " : String)) : Str).length = 2 := by decide
    omega
theorem int_shown (i : Int) (h : i.natAbs < 2 ^ 200) : ((toString i : String) : Str).length ≤ 300 := by
  have hl : i.natAbs.log2 < 200 := by
    by_cases h0 : i.natAbs = 0
    · rw [h0]; decide
    · exact (Nat.log2_lt h0).mpr h
  have z := int_text_length_le (a := i) (k := 200) (by decide) hl
  rw [PySem.ofString_length]
  omega
mutual
theorem tame_show : ∀ (d : PyData), tame d = true → d.showable = true ∧ d.hasDict = false ∧ d.shown.length ≤ wide d
  | .none, _ => ⟨rfl, rfl, by show ((("None" : String)) : Str).length ≤ 4; decide⟩
  | .bool b, _ => ⟨rfl, rfl, by cases b <;> decide⟩
  | .int i, h => by
    have hi : i.natAbs < 2 ^ 200 := of_decide_eq_true h
    refine ⟨decide_eq_true ?_, rfl, int_shown i hi⟩
    by_cases h0 : i.natAbs = 0
    · rw [h0]; decide
    · have := (Nat.log2_lt h0).mpr hi
      omega
  | .str x, h => by
    refine ⟨rfl, rfl, StrLaws.reprText_len x fun c hc => ?_⟩
    have := of_decide_eq_true (List.all_eq_true.mp (show x.cps.toList.all (fun c => decide (c < 128)) = true from h) c hc)
    omega
  | .list ds, h => by
    obtain ⟨h1, h2, h3⟩ := tames_show ds h
    refine ⟨h1, h2, ?_⟩
    show (listText (PyData.shownAll ds)).length ≤ wides ds + 4
    unfold listText
    have z := textFrom_le (PyData.shownAll ds) 0 "["
    have e1 : (((("[" : String)) : Str)).length = 1 := by decide
    have e2 : (((("]" : String)) : Str)).length = 1 := by decide
    rw [strLen_app]
    omega
  | .tuple ds, h => by
    obtain ⟨h1, h2, h3⟩ := tames_show ds h
    refine ⟨h1, h2, ?_⟩
    show (tupleText (PyData.shownAll ds)).length ≤ wides ds + 4
    unfold tupleText
    have z := join_le (PyData.shownAll ds)
    have e1 : (((("(" : String)) : Str)).length = 1 := by decide
    have e2 : ((((if (PyData.shownAll ds).length == 1 then ",)" else ")" : String)) : Str)).length ≤ 2 := by split <;> decide
    rw [strLen_app, strLen_app]
    omega
  | .dict _, h => nomatch (show false = true from h)
theorem tames_show : ∀ (ds : List PyData), tames ds = true → PyData.showableAll ds = true ∧ PyData.hasDictAll ds = false ∧ ((PyData.shownAll ds).map fun t => t.length + 2).sum ≤ wides ds
  | [], _ => ⟨rfl, rfl, Nat.le_refl _⟩
  | d :: ds, h => by
    obtain ⟨a, b⟩ := Bool.and_eq_true_iff.mp (show (tame d && tames ds) = true from h)
    obtain ⟨a1, a2, a3⟩ := tame_show d a
    obtain ⟨b1, b2, b3⟩ := tames_show ds b
    refine ⟨?_, ?_, ?_⟩
    · show (d.showable && PyData.showableAll ds) = true
      rw [a1, b1]
      rfl
    · show (d.hasDict || PyData.hasDictAll ds) = false
      rw [a2, b2]
      rfl
    · show (((d.shown :: PyData.shownAll ds).map fun t => t.length + 2)).sum ≤ wide d + 2 + wides ds
      rw [List.map_cons, List.sum_cons]
      omega
end
theorem shw_of {d : PyData} (h : tame d = true) (hd : d.depth ≤ 60) (hw : wide d ≤ sizeLine) : Shw d := by
  obtain ⟨h1, h2, h3⟩ := tame_show d h
  exact ⟨h1, h2, hd, Nat.le_trans h3 hw⟩
end My

/-! texts as lists of signs; words, windows, places -/
namespace My
open PySem PySem.Spec PyProof.Rows L2 Evl
/-! ### texts -/
def tx (l : List Nat) : Str := ⟨l.toArray⟩
def sg (x : Str) : List Nat := x.cps.toList
theorem sg_tx (l : List Nat) : sg (tx l) = l := rfl
theorem tx_sg (x : Str) : tx (sg x) = x := by
  cases x
  rfl
theorem sg_inj {x y : Str} (h : sg x = sg y) : x = y := by rw [← tx_sg x, h, tx_sg]
theorem len_sg (x : Str) : x.length = (sg x).length := rfl
theorem sg_app (x y : Str) : sg (x ++ y) = sg x ++ sg y := by
  show (x.cps ++ y.cps).toList = _
  rw [Array.toList_append]
  rfl
/-- small letters -/
def Word (x : Str) : Prop := ∀ c ∈ sg x, 97 ≤ c ∧ c ≤ 122
def lt (x y : Str) : Prop := sg x < sg y
instance (x y : Str) : Decidable (lt x y) := inferInstanceAs (Decidable (sg x < sg y))
def begS (x : Str) : Str := tx (sg x).dropLast
def endS (x : Str) : Str := tx ((sg x).drop 1)
theorem cut_beg (x : Str) : cutS x none (some (-1)) = begS x := by
  unfold cutS begS tx sg
  have e1 : HT.sIx x.length 0 none = 0 := rfl
  have e2 : HT.sIx x.length x.length (some (-1)) = x.length - 1 := by
    show (if (-1 : Int) < 0 then ((-1 : Int) + (x.length : Int)).toNat else min (-1 : Int).toNat x.length) = _
    rw [if_pos (by decide)]
    omega
  rw [e1, e2, List.drop_zero, Nat.sub_zero, List.dropLast_eq_take]
  rfl
theorem cut_end (x : Str) : cutS x (some 1) none = endS x := by
  unfold cutS endS tx sg
  have e1 : HT.sIx x.length 0 (some 1) = min 1 x.length := rfl
  have e2 : HT.sIx x.length x.length none = x.length := rfl
  rw [e1, e2]
  congr 1
  have hl : x.cps.toList.length = x.length := rfl
  by_cases h : 1 ≤ x.length
  · rw [Nat.min_eq_left h, List.take_of_length_le]
    rw [List.length_drop]
    omega
  · have h0 : x.length = 0 := by omega
    rw [h0] at hl
    rw [List.length_eq_zero_iff.mp hl, h0]
    rfl
theorem cut_at (x : Str) (a b : Nat) (hb : b ≤ x.length) : cutS x (some (a : Int)) (some (b : Int)) = tx (((sg x).drop (min a x.length)).take (b - min a x.length)) := by
  unfold cutS tx sg
  have e1 : HT.sIx x.length 0 (some (a : Int)) = min a x.length := HT.sIx_nat _ _ _
  have e2 : HT.sIx x.length x.length (some (b : Int)) = min b x.length := HT.sIx_nat _ _ _
  rw [e1, e2, Nat.min_eq_left hb]
/-- ascending, no two alike -/
def Asc (ws : List Str) : Prop := ws.Pairwise lt
/-- windows of n letters -/
def Win (n : Nat) (ws : List Str) : Prop := (∀ x ∈ ws, Word x ∧ x.length = n) ∧ Asc ws
structure Bk (n : Nat) (ws : List Str) : Prop where
  lo : 2 ≤ n
  hi : n ≤ 6
  win : Win n ws
  ne : ws ≠ []
  few : ws.length ≤ 60
theorem atI_of {α : Type} {xs : List α} {i : Int} {j : Nat} {v : α} (h : i = (j : Int)) (hx : xs[j]? = some v) : atI xs i = some v := by
  subst h
  exact atI_nat hx
theorem get_map {α β : Type} {f : α → β} {xs : List α} {j : Nat} (h : j < xs.length) : (xs.map f)[j]? = some (f xs[j]) := by
  rw [List.getElem?_map, List.getElem?_eq_getElem h]
  rfl
theorem str_at {ws : List Str} {i : Nat} {x : V} (h : (ws.map V.str)[i]? = some x) : ∃ z, ws[i]? = some z ∧ x = .str z := by
  rw [List.getElem?_map] at h
  cases e : ws[i]? with
  | none => rw [e] at h; cases h
  | some z => rw [e] at h; exact ⟨z, rfl, (Option.some.inj h).symm⟩
theorem givenD_all {n : Nat} {F : Nat → PyData} : givenD n (fun _ => true) F = (List.range n).map F := by
  unfold givenD
  rw [List.filter_eq_self.mpr (fun _ _ => rfl)]
theorem sz_of {n : Nat} (h : n ≤ 1000000) : n ≤ sizeLine := Nat.le_trans h (by decide)
theorem sz_lt {n : Nat} (h : n ≤ 1000000) : n < sizeLine := Nat.lt_of_le_of_lt h (by decide)
theorem word_in (c : Nat) : decide (c ∈ sg ("abcdefghijklmnopqrstuvwxyz" : Str)) = decide (97 ≤ c ∧ c ≤ 122) := by
  have e : sg ("abcdefghijklmnopqrstuvwxyz" : Str) = (List.range 26).map (· + 97) := by decide +kernel
  rw [e]
  by_cases h : 97 ≤ c ∧ c ≤ 122
  · rw [decide_eq_true h]
    exact decide_eq_true (List.mem_map.mpr ⟨c - 97, List.mem_range.mpr (by omega), by omega⟩)
  · rw [decide_eq_false h]
    exact decide_eq_false fun z => h (by
      obtain ⟨a, ha, rfl⟩ := List.mem_map.mp z
      have := List.mem_range.mp ha
      omega)
end My

/-! the layer's rules with the written part told by name (a comprehension's block has it by its own) -/
namespace My
open PySem PySem.Spec PyProof.Rows L2 Evl
section
variable {X : Cx} {K : PySem.W.Frag} {t : TA} {tl te to : TE} {o e e2 a : Expr} {es : List Expr} {tg : Expr} {p pos apos cpos tpos : Pos}
theorem ix_tupK (h : X.K = K := by rfl) : IxR X (rIxT K) := by subst h; exact ix_tup
theorem ix_listK (h : X.K = K := by rfl) : IxR X (rIxL K) := by subst h; exact ix_list
theorem ix_seqK (h : X.K = K := by rfl) : IxR X (rIx K) := by subst h; exact ix_seq
theorem op_inK (h : X.K = K := by rfl) : OpR X (compareOp .In) (rIn K false) := by subst h; exact op_in_seq
theorem op_notInK (h : X.K = K := by rfl) : OpR X (compareOp .NotIn) (rIn K true) := by subst h; exact op_notIn_seq
theorem op_eqDK (hu : X.A.units + 64 < cLine) (h : X.K = K := by rfl) : OpR X (compareOp .Eq) (rEqD K) := by subst h; exact op_eqD hu
theorem op_neDK (hu : X.A.units + 64 < cLine) (h : X.K = K := by rfl) : OpR X (compareOp .NotEq) (rNeD K) := by subst h; exact op_neD hu
theorem op_catAK (h : X.K = K := by rfl) : OpR X (binaryOp .Add) (rCatA K) := by subst h; exact op_catA
theorem sl_listK (h : X.K = K := by rfl) : SlR X (rSlL K) := by subst h; exact sl_list
theorem sl_tupK (h : X.K = K := by rfl) : SlR X (rSlA K) := by subst h; exact sl_tupA
def rLenQ (K : PySem.W.Frag) : List V → Hp → VK → Prop := fun xs H Q => ∃ a ys, xs = [.ref a] ∧ Sq K H a ys ∧ Q (.int ys.length) H
theorem call_lenK (h : X.K = K := by rfl) : CallR X (.builtin "len") (rLenQ K) := by subst h; exact call_len_seq
def rLenA (K : PySem.W.Frag) : List V → Hp → VK → Prop := fun xs H Q => ∃ x n, xs = [x] ∧ LenV K x H n ∧ Q (.int n) H
theorem call_lenAK (h : X.K = K := by rfl) : CallR X (.builtin "len") (rLenA K) := by subst h; exact call_len
theorem cr_allK (hc : X.calm = true) (h : X.K = K := by rfl) : CallR X (.builtin "all") (rAll K) := by subst h; exact cr_all hc
theorem cr_anyK (hc : X.calm = true) (h : X.K = K := by rfl) : CallR X (.builtin "any") (rAny K) := by subst h; exact cr_any hc
theorem cr_sumK (hc : X.calm = true) (h : X.K = K := by rfl) : CallR X (.builtin "sum") (rSum K) := by subst h; exact cr_sum hc
theorem cr_maxK (hc : X.calm = true) (h : X.K = K := by rfl) : CallR X (.builtin "max") (rMax K) := by subst h; exact cr_max hc
theorem cr_minK (hc : X.calm = true) (h : X.K = K := by rfl) : CallR X (.builtin "min") (rMin K) := by subst h; exact cr_min hc
theorem cr_sortedSK (h : X.K = K := by rfl) : CallR X (.builtin "sorted") (rSortedS K) := by subst h; exact cr_sortedS
theorem call_isiK2 (h : X.K = K := by rfl) : CallR X (.builtin "isinstance") (rIsi K) := by subst h; exact call_isi
def rListQ (K : PySem.W.Frag) : List V → Hp → VK → Prop := fun xs H Q => ∃ a ys, xs = [.ref a] ∧ Sq K H a ys ∧ ∀ l, H l = none → Q (.ref l) (upd H l (.lst ys))
theorem call_listK (h : X.K = K := by rfl) : CallR X (.type "list") (rListQ K) := by subst h; exact call_list_of
def rTupQ (K : PySem.W.Frag) : List V → Hp → VK → Prop := fun xs H Q => ∃ a ys, xs = [.ref a] ∧ ((SqL K H a ys ∧ ∀ l, H l = none → Q (.ref l) (upd H l (.tup ys))) ∨ (SqT K H a ys ∧ Q (.ref a) H))
theorem call_tupleK (h : X.K = K := by rfl) : CallR X (.type "tuple") (rTupQ K) := by subst h; exact call_tuple_of
def rRepr (K : PySem.W.Frag) : List V → Hp → VK → Prop := fun xs H Q => ∃ v d, xs = [v] ∧ Dp K H v d ∧ Shw d ∧ Q (.str d.shown) H
theorem cr_reprK (hgd : X.A.guards = some []) (hu : X.A.units + 64 < cLine) (h : X.K = K := by rfl) : CallR X (.builtin "repr") (rRepr K) := by subst h; exact cr_repr hgd hu
theorem pi_listK (h : PE X a tl) (e : X.K = K := by rfl) : PI X tg a (iList K tl) := by subst e; exact pi_list h
theorem pi_tupK (h : PE X a tl) (e : X.K = K := by rfl) : PI X tg a (iTup K tl) := by subst e; exact pi_tup h
theorem pi_seqK (h : PE X a tl) (e : X.K = K := by rfl) : PI X tg a (iSeq K tl) := by subst e; exact pi_seq h
theorem pi_enumK {elts : List Expr} {kk : Nat} (hm : X.mg "enumerate" = none) (ha : PA X [e] t) (h : X.K = K := by rfl) (hg : Gl X "enumerate" := by rfl) (hs : starEach [e] X.env = [(false, eval e X.env)] := by rfl) :
    PI X (.Tuple elts kk tpos) (.Call (.Name "enumerate" p) [e] [] pos) (iEnum K t) := by subst h; exact pi_enum hg hm ha hs
theorem pi_zipK {elts : List Expr} {kk : Nat} (hm : X.mg "zip" = none) (ha : PA X [e, e2] t) (h : X.K = K := by rfl) (hg : Gl X "zip" := by rfl) (hs : starEach [e, e2] X.env = (false, eval e X.env) :: starEach [e2] X.env := by rfl) (hpl : (backTo pos (starEach [e2] X.env)).any (·.1) = false := by rfl) :
    PI X (.Tuple elts kk tpos) (.Call (.Name "zip" p) [e, e2] [] pos) (iZip K t) := by subst h; exact pi_zip hg hm ha hs hpl
def rJoin (K : PySem.W.Frag) : V → List V → Hp → VK → Prop := fun x xs H Q => ∃ z a, ∃ ys : List Str, x = .str z ∧ xs = [.ref a] ∧ Sq K H a (ys.map V.str) ∧ (ys.map (·.length)).sum + ys.length * z.length ≤ 16777216 ∧ Q (.str (Txt.join z ys)) H
theorem pe_joinK (ho : PE X o to) (he : PE X e te) (h : X.K = K := by rfl) (hs : starEach [e] X.env = [(false, eval e X.env)] := by rfl) (hbase : attributeBase o "join" X.env (eval o X.env) = eval o X.env := by rfl) (hline : (apos.endLine == pos.line) = true := by rfl) :
    PE X (.Call (.Attribute o "join" apos) [e] [] pos) (tM1 (rJoin K) to te) := by subst h; exact pe_join ho he hs hbase hline
theorem pe_bmK {T id : String} {name : Str} {r : V → List V → Hp → VK → Prop} (pa : PlainAttrs T) (slot : Slot T name id) (hty : typeOf (.builtin id) = pure (.type "method_descriptor")) (hm : MtR X id r) (ho : PE X o to) (ha : PA X (e :: es) t) (h : X.K = K := by rfl)
    (hbase : attributeBase o name X.env (eval o X.env) = eval o X.env := by rfl)
    (hfew : ((backTo cpos (starEach (e :: es) X.env)).all (fun x => !x.1) && (backToKw cpos (keywordEach [] X.env)).all (fun x => x.1.isSome) && decide ((e :: es).length + ([] : List Keyword).length + (if ([] : List Keyword).isEmpty then 0 else 1) < 30)) = true := by rfl)
    (hline : (apos.endLine == cpos.line) = true := by rfl) (hs : starEach (e :: es) X.env = (false, eval e X.env) :: starEach es X.env := by rfl) (hplain : (backTo cpos (starEach es X.env)).any (·.1) = false := by rfl) :
    PE X (.Call (.Attribute o name apos) (e :: es) [] cpos) (tBM K T r to t) := by subst h; exact pe_bm pa slot hty hm ho ha hbase hfew hline hs hplain
theorem pe_bm0K {T id : String} {name : Str} {r : V → List V → Hp → VK → Prop} (pa : PlainAttrs T) (slot : Slot T name id) (hty : typeOf (.builtin id) = pure (.type "method_descriptor")) (hm : MtR X id r) (ho : PE X o to) (h : X.K = K := by rfl)
    (hbase : attributeBase o name X.env (eval o X.env) = eval o X.env := by rfl) (hline : (apos.endLine == cpos.line) = true := by rfl) : PE X (.Call (.Attribute o name apos) [] [] cpos) (tBM0 K T r to) := by subst h; exact pe_bm0 pa slot hty hm ho hbase hline
def tTruth (K : PySem.W.Frag) (te : TE) : TT := fun σ H Q => te σ H fun x H' => ∃ k, TruV K x H' k ∧ Q k H'
theorem pt_truthK (ha : PE X a te) (he : ∀ whole, isTrue a X.env whole = (do let v ← whole; standAt a.pos; holding [v] (truthy v)) := by intro _; rfl) (h : X.K = K := by rfl) : PT X a (tTruth K te) := by subst h; exact pt_truth ha he
theorem pe_get2 {f : Expr} {td ty tx : TE} (hu : X.A.units + 1 < cLine) (ho : PE X o td) (he : PE X e ty) (hf : PE X f tx) (h1 : attributeBase o "get" X.env (eval o X.env) = eval o X.env := by rfl)
    (h2 : ((backTo cpos (starEach [e, f] X.env)).all (fun x => !x.1) && (backToKw cpos (keywordEach [] X.env)).all (fun x => x.1.isSome) && decide (([e, f] : List Expr).length + ([] : List Keyword).length + (if ([] : List Keyword).isEmpty then 0 else 1) < 30)) = true := by rfl)
    (h3 : (apos.endLine == cpos.line) = true := by rfl) (h4 : backTo cpos (starEach [e, f] X.env) = [(false, eval e X.env), (false, eval f X.env)] := by rfl) : PE X (.Call (.Attribute o "get" apos) [e, f] [] cpos) (tDGet2 td ty tx) := pe_dget2 hu ho he hf ⟨h1, h2, h3, h4⟩
theorem pe_get1 {td ty : TE} (hu : X.A.units + 1 < cLine) (ho : PE X o td) (he : PE X e ty) (h1 : attributeBase o "get" X.env (eval o X.env) = eval o X.env := by rfl)
    (h2 : ((backTo cpos (starEach [e] X.env)).all (fun x => !x.1) && (backToKw cpos (keywordEach [] X.env)).all (fun x => x.1.isSome) && decide (([e] : List Expr).length + ([] : List Keyword).length + (if ([] : List Keyword).isEmpty then 0 else 1) < 30)) = true := by rfl)
    (h3 : (apos.endLine == cpos.line) = true := by rfl) (h4 : backTo cpos (starEach [e] X.env) = [(false, eval e X.env)] := by rfl) : PE X (.Call (.Attribute o "get" apos) [e] [] cpos) (tDGet1 td ty) := pe_dget1 hu ho he ⟨h1, h2, h3, h4⟩
/-- a text from behind -/
def revS (x : Str) : Str := tx (sg x).reverse
def tRevS (te : TE) : TE := fun σ H Q => te σ H fun v H1 => ∃ z, v = .str z ∧ z.length ≤ sizeLine ∧ Q (.str (revS z)) H1
theorem sliced_rev (z : Str) (st : Option (Int × Tok)) (h : st.map (·.1) = some (-1)) : (⟨((PySem.slicePicked z none none st).filterMap (z.cps[·]?)).toArray⟩ : Str) = revS z := by
  have pk : PySem.slicePicked z none none st = (List.range z.length).map fun k => z.length - 1 - k := by
    unfold PySem.slicePicked
    rw [h]
    exact picked_rev _
  unfold revS tx sg
  congr 2
  rw [pk, filterMap_get, List.map_map]
  · refine List.ext_getElem (by simp [Str.length]) fun i h1 h2 => ?_
    have hi : i < z.cps.size := by simpa using h2
    have hj : z.length - 1 - i < z.cps.size := by
      show z.cps.size - 1 - i < _
      omega
    rw [List.getElem_map, List.getElem_range, List.getElem_reverse]
    show z.cps.getD (z.length - 1 - i) 0 = _
    rw [Array.getElem_toList]
    unfold Array.getD
    rw [dif_pos hj]
    rfl
  · rintro i hi
    obtain ⟨k, hk, rfl⟩ := List.mem_map.mp hi
    have := List.mem_range.mp hk
    show z.length - 1 - k < z.length
    omega
theorem pe_revS {kk : Nat} {q1 q2 q3 : Pos} (ho : PE X o to) : PE X (.Subscript o (.Slice none none (some (.UnaryOp .USub (.Constant (.int 1) kk q1) q2)) q3) pos) (tRevS to) := by
  constructor
  intro pins sh σ H Q I want
  apply Subscript_
  apply thn (ho.run pins sh σ H _ I want)
  rintro v sa ⟨y, Ha, Ia, ry, z, rfl, hz, qz⟩
  obtain ⟨tk, rfl⟩ := ry
  have pst : PO X (some (.UnaryOp .USub (.Constant (.int 1) kk q1) q2)) (tPart (tUn (rU fun j => .int (-j)) (tC (.int 1)))) := po_some (pe_un un_neg pe_int)
  apply wpAny_Slice
  apply thn (po_none.run pins sa σ Ha (fun part Hb => part = none ∧ Hb = Ha) Ia ⟨rfl, rfl⟩)
  rintro vl sb ⟨pl, Hb, Ib, isl, rfl, rfl⟩
  apply thn (po_none.run pins sb σ Hb (fun part Hc => part = none ∧ Hc = Hb) Ib ⟨rfl, rfl⟩)
  rintro vu sc ⟨pu, Hc, Ic, isu, rfl, rfl⟩
  apply thn (pst.run pins sc σ Hc (fun part Hd => part = some (-1) ∧ Hd = Hc) Ic ⟨1, rfl, -1, rfl, rfl, rfl⟩)
  rintro vs sd ⟨ps, Hd, Id, iss, rfl, rfl⟩
  have Ie : Inv X pins σ Hd ⟨sd.heap.push { cls := .type "slice", data := .fields #[vl, vu, vs] }, sd.gens, sd.drawn, sd.toks, sd.os⟩ := Id.kept (t' := sd.toks) fun b ob w => Heap.get?_push_of_some _ w
  obtain ⟨l1, rfl, e1⟩ := IsPart.raw isl
  obtain ⟨l2, rfl, e2⟩ := IsPart.raw isu
  obtain ⟨l3, rfl, e3⟩ := IsPart.raw iss
  obtain rfl : l1 = none := by cases l1 with
    | none => rfl
    | some _ => cases e1
  obtain rfl : l2 = none := by cases l2 with
    | none => rfl
    | some _ => cases e2
  show wpAny (model X.prog X.w) X.A (subscriptTail o (.Slice none none (some (.UnaryOp .USub (.Constant (.int 1) kk q1) q2)) q3) (.str z tk) (.ref sd.heap.objs.size)) (EP X pins σ Q) X.xe ⟨sd.heap.push { cls := .type "slice", data := .fields #[partValue none, partValue none, partValue l3] }, sd.gens, sd.drawn, sd.toks, sd.os⟩
  apply tail_any (ops := [.ref sd.heap.objs.size, .str z tk]) (typeIs_str _ _ _) PySem.F.slot_str_getitem.lookup ?_ (by with_unfolding_all rfl)
  apply wpAny_getItem_str_slice (l := none) (u := none) (st := l3) ⟨_, Heap.get?_push_size _ rfl, rfl, rfl⟩ (by rw [e3]; rfl)
  have hb : ((l3.map (·.1)).getD 1 == 1) = false := by rw [e3]; rfl
  unfold PySem.sliceMade
  rw [hb, Bool.false_and, if_neg Bool.false_ne_true, sliced_rev z l3 e3]
  exact ⟨by show (sg z).reverse.length ≤ _; rw [List.length_reverse]; exact hz, .str (revS z), Hd, Ie.tok _, ⟨_, rfl⟩, qz⟩
end
end My

/-! sorted of texts, any number of them: of a dict by its keys, of a list or tuple -/
namespace My
open PySem PySem.Spec PyProof.Rows L2 Evl
def leS (x y : Str) : Bool := decide (x.cps.toList ≤ y.cps.toList)
def sortS (xs : List Str) : List Str := xs.mergeSort leS
theorem le_dataS : PySem.W.dataLe false (fun b : Str => PyData.str b) = leS := PySem.W.dataLe_str fun b => b
section
variable {X : Cx} {K : PySem.W.Frag}
theorem each_strs : ∀ {us : List Value} {ks : List Str}, StrsAre us ks → PySem.W.EachIs (fun v b => ∃ t, v = Value.str b t) us ks
  | _, _, .nil => .nil
  | _, _, .cons x t h => .cons ⟨t, rfl⟩ (each_strs h)
theorem strs_each : ∀ {us : List Value} {ks : List Str}, PySem.W.EachIs (fun v b => ∃ t, v = Value.str b t) us ks → StrsAre us ks
  | _, _, .nil => .nil
  | _, _, .cons ⟨t, e⟩ h => by
    subst e
    exact .cons _ t (strs_each h)
def rSortDct (K : PySem.W.Frag) : List V → Hp → VK → Prop := fun xs H Q => ∃ (a : Addr) (kvs : List (Key × V)) (ks : List Str), xs = [.ref a] ∧ Rd H a (.dK kvs) ∧ kvs.map (·.1) = ks.map Sum.inr ∧ ks.length ≤ 100000 ∧
  ∀ p, H p = none → Q (.ref p) (upd H p (.lst ((sortS ks).map V.str)))
theorem cr_sortDct (hcalm : X.calm = true) (hu : X.A.units + 64 < cLine) : CallR X (.builtin "sorted") (rSortDct K) := by
  intro pins st σ H xs us Q I r q
  obtain ⟨a, kvs, ks, rfl, hd, hks, hmax, q⟩ := q
  obtain ⟨u, rfl, rx⟩ := vals1 r
  cases rx
  obtain ⟨z, lo, vs, rel, dd⟩ := dk_rd I.hok hd
  obtain ⟨ep, hat⟩ := dd.dictAt
  have keys : vs.map (·.1) = ks.map Sum.inr := rel.keys.symm.trans hks
  have hlen : vs.length = ks.length := by simpa using congrArg List.length keys
  have big : 100000 ≤ sizeLine := by decide
  refine Calls.call_function_entry PyProof.Rows.kind_sorted PyProof.Rows.plain_sorted PyProof.Rows.entry_sorted (PyProof.Rows.args_sorted1 _) ?_
  unfold Builtin.«sorted»
  refine wpAny_bind (m := checkCount "sorted" 1 1 _) (wpAny_pure ?_)
  refine wpAny_bind (PySem.W.kdu_collect (A := X.A.in1) (PySem.W.kdl_dict (knd := mixKind X.prog X.w) (kvs := vs) (ep := ep) lo) (I.ok.hd hcalm) hat (by omega) fun h2 tk acc kept hacc => ?_)
  have alen : acc.toList.length = ks.length := by rw [Array.length_toList, hacc.1, hlen]
  have hS : StrsAre acc.toList ks := L2.strs_at alen fun j v e => by
    obtain ⟨k, x, e1, e2⟩ := hacc.2 j v (by rw [← Array.getElem?_toList]; exact e)
    have e3 : (vs.map (·.1))[j]? = some k := by rw [List.getElem?_map, e1]; rfl
    rw [keys, List.getElem?_map] at e3
    cases e4 : ks[j]? with
    | none => rw [e4] at e3; cases e3
    | some y =>
      rw [e4] at e3
      obtain rfl : Sum.inr y = k := Option.some.inj e3
      obtain ⟨t, ev⟩ := Value.isStrOf_shape (x := y) (v := v) e2
      exact ⟨y, t, rfl, ev⟩
  have I2 : Inv X pins σ H { st with heap := h2, toks := tk } := I.kept kept
  refine wpAny_bind (wpAny_newList ?_ (by rw [alen]; omega))
  have hobj : (h2.push (seqObj "list" acc.toList.toArray 0)).get? h2.objs.size = some (seqObj "list" acc.toList.toArray 0) := Heap.get?_push_size _ rfl
  show wpAny _ _ _ _ _ { st with heap := h2.push (seqObj "list" acc.toList.toArray 0), toks := tk }
  refine wpAny_bind (wpAny_holding (PySem.W.list_sort_data (A := X.A.in1) (R := fun v (b : Str) => ∃ t, v = Value.str b t) (enc := fun b : Str => PyData.str b) (bs := ks) hobj (each_strs hS) ((each_strs hS).mono fun v b ⟨t, e⟩ => ?_)
    (PySem.W.AllAlike.of fun _ _ => rfl) (PySem.W.Sortable.others fun _ => ⟨(fun z => nomatch z), (fun _ z => nomatch z)⟩) (by omega) (fun b _ => ?_) fun out olen eo => ?_))
  · subst e
    exact ⟨[], .str b t, by simp⟩
  · show X.A.units + 1 + 1 + 0 < cLine
    omega
  rw [le_dataS] at eo
  have hS2 := strs_each eo
  obtain ⟨e', he'⟩ := PyProof.Rows.sortedHeap_at (vs := acc.toList) (out := out.toArray) hobj
  have l2 : ((sortS ks).map V.str).length ≤ sizeLine := by
    unfold sortS
    rw [List.length_map, List.length_mergeSort]
    omega
  refine wpAny_pure ⟨_, rfl, .ref h2.objs.size, upd H h2.objs.size (.lst ((sortS ks).map V.str)), I2.laid (t' := tk) (fun b u e => ?_) (Nat.le_refl _)
    (show ObjOk X.prog X.w _ _ _ (.lst ((sortS ks).map V.str)) from ⟨l2, out, e', vals_of_strs hS2, he'⟩), rfl, q _ (I2.hok.fresh (Nat.le_refl _))⟩
  have hb : b < h2.objs.size := Heap.lt_size e
  rw [PyProof.Rows.sortedHeap_old (Nat.ne_of_lt hb) (by rw [size_push']; exact Nat.lt_succ_of_lt hb)]
  exact Heap.get?_push_of_some _ e
def rSortLst (K : PySem.W.Frag) : List V → Hp → VK → Prop := fun xs H Q => ∃ (a : Addr) (ks : List Str), xs = [.ref a] ∧ SqL K H a (ks.map V.str) ∧ ks.length ≤ 100000 ∧ ∀ p, H p = none → Q (.ref p) (upd H p (.lst ((sortS ks).map V.str)))
theorem cr_sortLst (hu : X.A.units + 64 < cLine) (hK : X.K = K := by rfl) : CallR X (.builtin "sorted") (rSortLst K) := by
  subst hK
  intro pins st σ H xs us Q I r q
  obtain ⟨a, ks, rfl, hs, hmax, q⟩ := q
  obtain ⟨its, rv, hl, _⟩ := I.list hs
  rw [Vals.ref1 r]
  have hS := rv.strs
  have big : 100000 ≤ sizeLine := by decide
  refine PySem.W.sorted_data (R := fun v (b : Str) => ∃ t, v = Value.str b t) (enc := fun b : Str => PyData.str b) (bs := ks) hl.isList (each_strs hS) ((each_strs hS).mono fun v b ⟨t, e⟩ => ?_)
    (PySem.W.AllAlike.of fun _ _ => rfl) (PySem.W.Sortable.others fun _ => ⟨(fun z => nomatch z), (fun _ z => nomatch z)⟩) (by omega) (fun b _ => ?_) fun out olen eo => ?_
  · subst e
    exact ⟨[], .str b t⟩
  · show X.A.units + 2 + 0 < cLine
    omega
  rw [le_dataS] at eo
  have hS2 := strs_each eo
  obtain ⟨ep, he'⟩ := PyProof.Rows.sortedAll_at st.heap its out.toArray
  have l2 : ((sortS ks).map V.str).length ≤ sizeLine := by
    unfold sortS
    rw [List.length_map, List.length_mergeSort]
    omega
  exact ⟨.ref _, upd H (st.heap.objs.size + 1) (.lst ((sortS ks).map V.str)), I.laid (t' := st.toks) (fun _ _ => PyProof.Rows.sortedAll_old) (Nat.le_succ _) ⟨l2, out, ep, vals_of_strs hS2, he'⟩, rfl, q _ (I.hok.fresh (Nat.le_succ _))⟩
end
/-! ### what sorted gives -/
theorem leS_total : PySem.W.TotalLe leS where
  trans := fun a b c h1 h2 => decide_eq_true (List.le_trans (of_decide_eq_true h1) (of_decide_eq_true h2))
  total := fun a b => (List.le_total a.cps.toList b.cps.toList).elim (fun h => .inl (decide_eq_true h)) fun h => .inr (decide_eq_true h)
theorem sortS_perm (xs : List Str) : (sortS xs).Perm xs := List.mergeSort_perm xs leS
theorem sortS_mem {xs : List Str} {x : Str} : x ∈ sortS xs ↔ x ∈ xs := (sortS_perm xs).mem_iff
theorem sortS_len (xs : List Str) : (sortS xs).length = xs.length := (sortS_perm xs).length_eq
theorem sortS_asc {xs : List Str} (h : xs.Nodup) : Asc (sortS xs) := by
  have h1 := PySem.W.sort_pairwise leS_total xs
  have h2 : (sortS xs).Nodup := (sortS_perm xs).symm.nodup h
  refine (h1.and h2).imp fun {a b} ⟨le, ne⟩ => ?_
  have le' : a.cps.toList ≤ b.cps.toList := of_decide_eq_true le
  by_cases hlt : sg a < sg b
  · exact hlt
  · exact absurd (sg_inj (List.le_antisymm le' (List.not_lt.mp hlt))) ne
theorem Asc.nodup {xs : List Str} (h : Asc xs) : xs.Nodup := h.imp fun {a b} hlt e => by
  subst e
  exact List.lt_irrefl _ hlt
theorem lt_trans' {a b c : Str} (h1 : lt a b) (h2 : lt b c) : lt a c := List.lt_trans h1 h2
theorem lt_asymm' {a b : Str} (h1 : lt a b) (h2 : lt b a) : False := List.lt_asymm h1 h2
/-- an ascending list is told by its members -/
theorem asc_ext : ∀ {xs ys : List Str}, Asc xs → Asc ys → (∀ z, z ∈ xs ↔ z ∈ ys) → xs = ys
  | [], [], _, _, _ => rfl
  | [], y :: ys, _, _, h => absurd ((h y).mpr (List.mem_cons_self ..)) (by simp)
  | x :: xs, [], _, _, h => absurd ((h x).mp (List.mem_cons_self ..)) (by simp)
  | x :: xs, y :: ys, hx, hy, h => by
    obtain ⟨hx1, hx2⟩ := List.pairwise_cons.mp hx
    obtain ⟨hy1, hy2⟩ := List.pairwise_cons.mp hy
    have e : x = y := by
      rcases List.mem_cons.mp ((h x).mp (List.mem_cons_self ..)) with e | h1
      · exact e
      · rcases List.mem_cons.mp ((h y).mpr (List.mem_cons_self ..)) with e | h2
        · exact e.symm
        · exact (lt_asymm' (hy1 x h1) (hx1 y h2)).elim
    subst e
    rw [asc_ext hx2 hy2 fun z => ⟨fun hz => ?_, fun hz => ?_⟩]
    · rcases List.mem_cons.mp ((h z).mp (List.mem_cons_of_mem _ hz)) with e | h1
      · subst e
        exact absurd (hx1 z hz) (List.lt_irrefl _)
      · exact h1
    · rcases List.mem_cons.mp ((h z).mpr (List.mem_cons_of_mem _ hz)) with e | h1
      · subst e
        exact absurd (hy1 z hz) (List.lt_irrefl _)
      · exact h1
theorem sortS_id {xs : List Str} (h : Asc xs) : sortS xs = xs := asc_ext (sortS_asc h.nodup) h fun _ => sortS_mem
end My

/-! webs: places, what is come to; dicts with text keys -/
namespace My
open PySem PySem.Spec PyProof.Rows L2 Evl
theorem nodup_one {α : Type} (a : α) : [a].Nodup := List.nodup_cons.mpr ⟨List.not_mem_nil, List.nodup_nil⟩
theorem nodup_len {α : Type} [DecidableEq α] : ∀ {ks l : List α}, ks.Nodup → (∀ x ∈ ks, x ∈ l) → ks.length ≤ l.length
  | [], _, _, _ => Nat.zero_le _
  | k :: ks, l, nd, h => by
    obtain ⟨h1, h2⟩ := List.nodup_cons.mp nd
    have hk : k ∈ l := h k (List.mem_cons_self ..)
    have ih := nodup_len (l := l.erase k) h2 fun x hx => by
      have hne : x ≠ k := fun e => h1 (e ▸ hx)
      exact (List.mem_erase_of_ne hne).mpr (h x (List.mem_cons_of_mem _ hx))
    have hl := List.length_erase_of_mem hk
    have hp : 0 < l.length := List.length_pos_of_mem hk
    rw [List.length_cons]
    omega
/-! ### what is come to, step by step -/
inductive Rch (sc : Str → List Str) (a : Str) : Str → Prop
  | refl : Rch sc a a
  | step {b c : Str} : Rch sc a b → c ∈ sc b → Rch sc a c
theorem Rch.trans {sc : Str → List Str} {a b c : Str} (h1 : Rch sc a b) (h2 : Rch sc b c) : Rch sc a c := by
  induction h2 with
  | refl => exact h1
  | step _ h ih => exact ih.step h
/-- a flood under way: found, waiting; op: what is being looked at -/
structure Srch (sc : Str → List Str) (s : Str) (ks wl : List Str) (op : Str → Prop) : Prop where
  mem : s ∈ ks
  nd : ks.Nodup
  rch : ∀ q ∈ ks, Rch sc s q
  sub : ∀ q ∈ wl, q ∈ ks
  cls : ∀ q ∈ ks, q ∈ wl ∨ op q ∨ ∀ r ∈ sc q, r ∈ ks
theorem Srch.start {sc : Str → List Str} {s : Str} : Srch sc s [s] [s] fun _ => False :=
  ⟨List.mem_singleton.mpr rfl, nodup_one s, fun q h => by rw [List.mem_singleton.mp h]; exact .refl, fun q h => h, fun q h => .inl h⟩
theorem Srch.done {sc : Str → List Str} {s : Str} {ks : List Str} (S : Srch sc s ks [] fun _ => False) (q : Str) : q ∈ ks ↔ Rch sc s q := by
  refine ⟨S.rch q, fun h => ?_⟩
  induction h with
  | refl => exact S.mem
  | step _ hc ih =>
    rcases S.cls _ ih with h | h | h
    · cases h
    · exact h.elim
    · exact h _ hc
theorem Srch.pop {sc : Str → List Str} {s p : Str} {ks wl : List Str} (S : Srch sc s ks (wl ++ [p]) fun _ => False) : Srch sc s ks wl fun q => q = p :=
  ⟨S.mem, S.nd, S.rch, fun q h => S.sub q (List.mem_append_left _ h), fun q h => by
    rcases S.cls q h with h | h | h
    · rcases List.mem_append.mp h with h | h
      · exact .inl h
      · exact .inr (.inl (List.mem_singleton.mp h))
    · exact h.elim
    · exact .inr (.inr h)⟩
theorem Srch.put {sc : Str → List Str} {s p r : Str} {ks wl : List Str} (S : Srch sc s ks wl fun q => q = p) (hp : p ∈ ks) (hr : r ∈ sc p) (hn : r ∉ ks) : Srch sc s (ks ++ [r]) (wl ++ [r]) fun q => q = p :=
  ⟨List.mem_append_left _ S.mem, List.nodup_append.mpr ⟨S.nd, nodup_one r, fun a ha b hb e => hn (by rw [← List.mem_singleton.mp hb, ← e]; exact ha)⟩, fun q h => by
    rcases List.mem_append.mp h with h | h
    · exact S.rch q h
    · rw [List.mem_singleton.mp h]
      exact (S.rch p hp).step hr, fun q h => by
    rcases List.mem_append.mp h with h | h
    · exact List.mem_append_left _ (S.sub q h)
    · exact List.mem_append_right _ h, fun q h => by
    rcases List.mem_append.mp h with h | h
    · rcases S.cls q h with h | h | h
      · exact .inl (List.mem_append_left _ h)
      · exact .inr (.inl h)
      · exact .inr (.inr fun z hz => List.mem_append_left _ (h z hz))
    · exact .inl (List.mem_append_right _ h)⟩
theorem Srch.shut {sc : Str → List Str} {s p : Str} {ks wl : List Str} (S : Srch sc s ks wl fun q => q = p) (h : ∀ r ∈ sc p, r ∈ ks) : Srch sc s ks wl fun _ => False :=
  ⟨S.mem, S.nd, S.rch, S.sub, fun q hq => by
    rcases S.cls q hq with h' | h' | h'
    · exact .inl h'
    · subst h'
      exact .inr (.inr h)
    · exact .inr (.inr h')⟩
/-! ### dicts with text keys -/
abbrev kS (k : Str) : Key := Sum.inr k
theorem inr_inj {a b : Str} : (kS a = kS b) ↔ a = b := ⟨fun h => Sum.inr.inj h, fun h => congrArg _ h⟩
theorem valV_keys {kvs : List (Key × V)} {ks : List Str} (h : kvs.map (·.1) = ks.map kS) (k : Str) : (valV kvs (kS k)).isSome = decide (k ∈ ks) := by
  rw [← valV_any]
  have e : (kvs.any fun kv => decide (kv.1 = kS k)) = ((kvs.map (·.1)).any fun z => decide (z = kS k)) := by rw [List.any_map]; rfl
  rw [e, h, List.any_map]
  have e2 : (ks.any ((fun z => decide (z = kS k)) ∘ kS)) = ks.any fun z => decide (z = k) := by
    congr 1
    funext z
    exact decide_eq_decide.mpr inr_inj
  rw [e2]
  by_cases hk : k ∈ ks
  · rw [decide_eq_true hk]
    exact List.any_eq_true.mpr ⟨k, hk, decide_eq_true rfl⟩
  · rw [decide_eq_false hk]
    refine Bool.eq_false_iff.mpr fun z => hk ?_
    obtain ⟨y, hy, e⟩ := List.any_eq_true.mp z
    rw [← of_decide_eq_true e]
    exact hy
theorem valV_none {kvs : List (Key × V)} {ks : List Str} (h : kvs.map (·.1) = ks.map kS) {k : Str} (hk : k ∉ ks) : valV kvs (kS k) = none := by
  have e := valV_keys h k
  rw [decide_eq_false hk] at e
  cases q : valV kvs (kS k) with
  | none => rfl
  | some v => rw [q] at e; cases e
theorem putK_keys {kvs : List (Key × V)} {ks : List Str} (h : kvs.map (·.1) = ks.map kS) (k : Str) (v : V) : (putK kvs (kS k) v).map (·.1) = (if k ∈ ks then ks else ks ++ [k]).map kS := by
  unfold putK
  rw [valV_any, valV_keys h]
  by_cases hk : k ∈ ks
  · rw [if_pos (decide_eq_true hk), if_pos hk, List.map_map, ← h]
    refine List.map_congr_left fun p _ => ?_
    show (if p.1 = kS k then (p.1, v) else p).1 = p.1
    split <;> rfl
  · rw [if_neg (by rw [decide_eq_false hk]; exact Bool.false_ne_true), if_neg hk, List.map_append, h, List.map_append]
    rfl
/-- a dict of truths -/
def trues (ks : List Str) : List (Key × V) := ks.map fun k => (kS k, V.bl true)
theorem trues_keys (ks : List Str) : (trues ks).map (·.1) = ks.map kS := by
  unfold trues
  rw [List.map_map]
  rfl
theorem trues_put {ks : List Str} {k : Str} (h : k ∉ ks) : putK (trues ks) (kS k) (V.bl true) = trues (ks ++ [k]) := by
  rw [putK_new _ (valV_none (trues_keys ks) h)]
  unfold trues
  rw [List.map_append]
  rfl
theorem trues_put_in {ks : List Str} {k : Str} (h : k ∈ ks) : putK (trues ks) (kS k) (V.bl true) = trues ks := by
  unfold putK
  rw [if_pos (by rw [valV_any, valV_keys (trues_keys ks)]; exact decide_eq_true h)]
  unfold trues
  rw [List.map_map]
  refine List.map_congr_left fun x _ => ?_
  show (if kS x = kS k then (kS x, V.bl true) else (kS x, V.bl true)) = _
  split <;> rfl
theorem trues_len (ks : List Str) : (trues ks).length = ks.length := List.length_map ..
/-- k added, if it is not there -/
def addS (ks : List Str) (k : Str) : List Str := if k ∈ ks then ks else ks ++ [k]
theorem addS_mem {ks : List Str} {k z : Str} : z ∈ addS ks k ↔ z ∈ ks ∨ z = k := by
  unfold addS
  split
  · rename_i h
    exact ⟨.inl, fun q => q.elim id fun e => e ▸ h⟩
  · rw [List.mem_append, List.mem_singleton]
theorem addS_nd {ks : List Str} (h : ks.Nodup) (k : Str) : (addS ks k).Nodup := by
  unfold addS
  split
  · exact h
  · rename_i hn
    exact List.nodup_append.mpr ⟨h, nodup_one k, fun a ha b hb e => hn (by rw [← List.mem_singleton.mp hb, ← e]; exact ha)⟩
theorem addS_len (ks : List Str) (k : Str) : (addS ks k).length ≤ ks.length + 1 := by
  unfold addS
  split
  · omega
  · rw [List.length_append]
    exact Nat.le_refl _
theorem trues_add (ks : List Str) (k : Str) : putK (trues ks) (kS k) (V.bl true) = trues (addS ks k) := by
  unfold addS
  split
  · rename_i h
    exact trues_put_in h
  · rename_i h
    exact trues_put h
/-- the texts of a list, each once, as they come -/
def ded (xs : List Str) : List Str := xs.foldl addS []
theorem ded_snoc (xs : List Str) (x : Str) : ded (xs ++ [x]) = addS (ded xs) x := by
  unfold ded
  rw [List.foldl_append]
  rfl
theorem foldl_addS_mem : ∀ {xs ks : List Str} {z : Str}, z ∈ xs.foldl addS ks ↔ z ∈ ks ∨ z ∈ xs
  | [], ks, z => by simp
  | x :: xs, ks, z => by
    rw [List.foldl_cons, foldl_addS_mem, addS_mem, List.mem_cons]
    exact or_assoc
theorem ded_mem {xs : List Str} {z : Str} : z ∈ ded xs ↔ z ∈ xs := by
  unfold ded
  rw [foldl_addS_mem]
  simp
theorem foldl_addS_nd : ∀ {xs ks : List Str}, ks.Nodup → (xs.foldl addS ks).Nodup
  | [], _, h => h
  | x :: xs, _, h => foldl_addS_nd (xs := xs) (addS_nd h x)
theorem ded_nd (xs : List Str) : (ded xs).Nodup := foldl_addS_nd List.nodup_nil
theorem ded_le (xs : List Str) : (ded xs).length ≤ xs.length := nodup_len (ded_nd xs) fun _ h => ded_mem.mp h
/-! ### places -/
def plcs (ws : List Str) : List Str := ws.flatMap fun x => [begS x, endS x]
theorem plcs_mem {ws : List Str} {p : Str} : p ∈ plcs ws ↔ ∃ x ∈ ws, p = begS x ∨ p = endS x := by
  unfold plcs
  rw [List.mem_flatMap]
  simp
theorem plcs_len (ws : List Str) : (plcs ws).length = 2 * ws.length := by
  unfold plcs
  induction ws with
  | nil => rfl
  | cons x ws ih =>
    rw [List.flatMap_cons, List.length_append, ih, List.length_cons]
    show 2 + 2 * ws.length = 2 * (ws.length + 1)
    omega
theorem plcs_app (a b : List Str) : plcs (a ++ b) = plcs a ++ plcs b := List.flatMap_append
theorem ded_plcs {ws : List Str} {i : Nat} {z : Str} (h : ws[i]? = some z) : ded (plcs (ws.take (i + 1))) = addS (addS (ded (plcs (ws.take i))) (begS z)) (endS z) := by
  have e : ws.take (i + 1) = ws.take i ++ [z] := by rw [List.take_add_one, h]; rfl
  have e2 : plcs (ws.take i ++ [z]) = (plcs (ws.take i) ++ [begS z]) ++ [endS z] := by
    rw [plcs_app, List.append_assoc]
    rfl
  rw [e, e2, ded_snoc, ded_snoc]
/-- the places, ascending -/
def places (ws : List Str) : List Str := sortS (ded (plcs ws))
theorem places_mem {ws : List Str} {p : Str} : p ∈ places ws ↔ p ∈ plcs ws := sortS_mem.trans ded_mem
theorem places_asc (ws : List Str) : Asc (places ws) := sortS_asc (ded_nd _)
theorem places_len (ws : List Str) : (places ws).length ≤ 2 * ws.length := by
  unfold places
  rw [sortS_len, ← plcs_len]
  exact ded_le _
/-- the windows that begin at a place, where they lead -/
def outs (ws : List Str) (p : Str) : List Str := ws.filter fun x => decide (begS x = p)
def nxts (ws : List Str) (p : Str) : List Str := (outs ws p).map endS
theorem outs_mem {ws : List Str} {p x : Str} : x ∈ outs ws p ↔ x ∈ ws ∧ begS x = p := by
  unfold outs
  rw [List.mem_filter, decide_eq_true_eq]
theorem nxts_mem {ws : List Str} {p q : Str} : q ∈ nxts ws p ↔ ∃ x ∈ ws, begS x = p ∧ endS x = q := by
  unfold nxts
  rw [List.mem_map]
  constructor
  · rintro ⟨x, hx, e⟩
    obtain ⟨h1, h2⟩ := outs_mem.mp hx
    exact ⟨x, h1, h2, e⟩
  · rintro ⟨x, h1, h2, e⟩
    exact ⟨x, outs_mem.mpr ⟨h1, h2⟩, e⟩
theorem beg_mem {ws : List Str} {x : Str} (h : x ∈ ws) : begS x ∈ plcs ws := plcs_mem.mpr ⟨x, h, .inl rfl⟩
theorem end_mem {ws : List Str} {x : Str} (h : x ∈ ws) : endS x ∈ plcs ws := plcs_mem.mpr ⟨x, h, .inr rfl⟩
theorem rch_plc {ws : List Str} {a b : Str} (ha : a ∈ plcs ws) (h : Rch (nxts ws) a b) : b ∈ plcs ws := by
  cases h with
  | refl => exact ha
  | step _ h =>
    obtain ⟨x, hx, _, rfl⟩ := nxts_mem.mp h
    exact end_mem hx
/-- all places come to one another -/
def Hang (ws : List Str) : Prop := ∀ p ∈ plcs ws, ∀ q ∈ plcs ws, Rch (nxts ws) p q
/-- .. and there is a window -/
def Sc (ws : List Str) : Prop := ws ≠ [] ∧ Hang ws
noncomputable def scB (ws : List Str) : Bool := @decide (Sc ws) (Classical.propDecidable _)
theorem scB_iff {ws : List Str} : scB ws = true ↔ Sc ws := by
  unfold scB
  exact @decide_eq_true_iff _ (Classical.propDecidable _)
theorem scB_false {ws : List Str} (h : ¬ Sc ws) : scB ws = false := Bool.eq_false_iff.mpr fun e => h (scB_iff.mp e)
theorem word_tx {l : List Nat} (h : ∀ c ∈ l, 97 ≤ c ∧ c ≤ 122) : Word (tx l) := h
theorem word_beg {x : Str} (h : Word x) : Word (begS x) := fun c hc => h c (List.dropLast_subset _ hc)
theorem word_end {x : Str} (h : Word x) : Word (endS x) := fun c hc => h c (List.drop_subset _ _ hc)
theorem len_beg (x : Str) : (begS x).length = x.length - 1 := by
  show ((sg x).dropLast).length = _
  rw [List.length_dropLast]
  rfl
theorem len_end (x : Str) : (endS x).length = x.length - 1 := by
  show ((sg x).drop 1).length = _
  rw [List.length_drop]
  rfl
theorem plcs_word {ws : List Str} {n : Nat} (h : ∀ x ∈ ws, Word x ∧ x.length = n) {p : Str} (hp : p ∈ plcs ws) : Word p ∧ p.length = n - 1 := by
  obtain ⟨x, hx, e⟩ := plcs_mem.mp hp
  obtain ⟨h1, h2⟩ := h x hx
  rcases e with rfl | rfl
  · exact ⟨word_beg h1, by rw [len_beg, h2]⟩
  · exact ⟨word_end h1, by rw [len_end, h2]⟩
/-! ### data that == takes -/
theorem layStrs : ∀ {ws : List Str}, (∀ x ∈ ws, Word x) → PyData.canLayAll0 (ws.map PyData.str) = true
  | [], _ => rfl
  | x :: ws, h => by
    show (PyData.strOk x && PyData.canLayAll0 (ws.map PyData.str)) = true
    rw [layStrs fun y hy => h y (List.mem_cons_of_mem _ hy), Bool.and_true]
    show x.cps.all (· < 0x110000) = true
    rw [← Array.all_toList]
    refine List.all_eq_true.mpr fun c hc => decide_eq_true ?_
    have := h x (List.mem_cons_self ..) c hc
    omega
theorem depthStrs : ∀ (ws : List Str), PyData.depthAll (ws.map PyData.str) = 0
  | [] => rfl
  | x :: ws => by
    show max 0 (PyData.depthAll (ws.map PyData.str)) = 0
    rw [depthStrs ws]
    rfl
theorem shapedL {ws : List Str} (h : ∀ x ∈ ws, Word x) : SeqAt.shaped (strsL ws) = true := by
  show (PyData.canLayAll0 (ws.map PyData.str) && decide (PyData.depthAll (ws.map PyData.str) + 1 ≤ 64)) = true
  rw [layStrs h, depthStrs]
  rfl
theorem shapedT {ws : List Str} (h : ∀ x ∈ ws, Word x) : SeqAt.shaped (strsT ws) = true := by
  show (PyData.canLayAll0 (ws.map PyData.str) && decide (PyData.depthAll (ws.map PyData.str) + 1 ≤ 64)) = true
  rw [layStrs h, depthStrs]
  rfl
theorem eqvStrs : ∀ (a b : List Str), PyData.eqvAll (a.map PyData.str) (b.map PyData.str) = decide (a = b)
  | [], [] => rfl
  | x :: a, [] => by rw [decide_eq_false (by simp)]; rfl
  | [], y :: b => by rw [decide_eq_false (by simp)]; rfl
  | x :: a, y :: b => by
    show (x == y && PyData.eqvAll (a.map PyData.str) (b.map PyData.str)) = _
    rw [eqvStrs a b]
    by_cases h1 : x = y
    · subst h1
      by_cases h2 : a = b
      · subst h2
        simp
      · rw [decide_eq_false h2, decide_eq_false (fun e => h2 (List.cons.inj e).2), Bool.and_false]
    · rw [decide_eq_false (fun e => h1 (List.cons.inj e).1), beq_eq_false_iff_ne.mpr h1, Bool.false_and]
theorem take_len {α : Type} (xs : List α) : xs.take xs.length = xs := List.take_length
end My

/-! dicts of lists, each list its own; a flood through one -/
namespace My
open PySem PySem.Spec PyProof.Rows L2 Evl
def wkv (rs : Str → Addr) (ks : List Str) : List (Key × V) := ks.map fun k => (kS k, V.ref (rs k))
theorem wkv_keys (rs : Str → Addr) (ks : List Str) : (wkv rs ks).map (·.1) = ks.map kS := by
  unfold wkv
  rw [List.map_map]
  rfl
theorem wkv_len (rs : Str → Addr) (ks : List Str) : (wkv rs ks).length = ks.length := List.length_map ..
theorem wkv_val {rs : Str → Addr} {k : Str} : ∀ {ks : List Str}, k ∈ ks → valV (wkv rs ks) (kS k) = some (.ref (rs k))
  | z :: ks, h => by
    by_cases e : z = k
    · subst e
      exact valV_pos rfl
    · show valV ((kS z, V.ref (rs z)) :: wkv rs ks) (kS k) = _
      rw [valV_neg fun q => e (inr_inj.mp q)]
      exact wkv_val ((List.mem_cons.mp h).resolve_left fun q => e q.symm)
theorem wkv_none {rs : Str → Addr} {k : Str} {ks : List Str} (h : k ∉ ks) : valV (wkv rs ks) (kS k) = none := valV_none (wkv_keys rs ks) h
theorem wkv_in {rs : Str → Addr} {k : Str} {ks : List Str} : (valV (wkv rs ks) (kS k)).isSome = decide (k ∈ ks) := valV_keys (wkv_keys rs ks) k
/-- such a dict, under way -/
structure Wb (Hb H : Hp) (d : Addr) (ks : List Str) (f : Str → List Str) (rs : Str → Addr) : Prop where
  e : Ex Hb H
  nd : Hb d = none
  nk : ks.Nodup
  hd : H d = some (.dK (wkv rs ks))
  row : ∀ k ∈ ks, Hb (rs k) = none ∧ H (rs k) = some (.lst ((f k).map V.str))
  inj : ∀ k ∈ ks, ∀ l ∈ ks, rs k = rs l → k = l
theorem Wb.start {Hb : Hp} {d : Addr} {f : Str → List Str} {rs : Str → Addr} (h : Hb d = none) : Wb Hb (upd Hb d (.dK [])) d [] f rs :=
  ⟨Ex.new h, h, List.nodup_nil, upd_same, fun _ z => (List.not_mem_nil z).elim, fun _ z => (List.not_mem_nil z).elim⟩
theorem Wb.put {Hb H : Hp} {d p : Addr} {ks : List Str} {f : Str → List Str} {rs : Str → Addr} {k : Str} (w : Wb Hb H d ks f rs) (hk : k ∉ ks) (hp : H p = none) (hf : f k = []) :
    Wb Hb (upd (upd H p (.lst [])) d (.dK (putK (wkv rs ks) (kS k) (.ref p)))) d (ks ++ [k]) f (fun z => if z = k then p else rs z) := by
  have hdp : d ≠ p := ne_of_none w.hd hp
  have same : ∀ z ∈ ks, (if z = k then p else rs z) = rs z := fun z hz => if_neg fun (q : z = k) => hk (by rw [← q]; exact hz)
  have hpd : p ≠ d := fun q => hdp q.symm
  refine ⟨Ex.mut (Ex.mut w.e (fresh_back w.e hp)) w.nd, w.nd, List.nodup_append.mpr ⟨w.nk, nodup_one k, fun a ha b hb (q : a = b) => hk (by rw [← List.mem_singleton.mp hb, ← q]; exact ha)⟩, ?_, fun z hz => ?_, fun y hy z hz q => ?_⟩
  · rw [upd_same, putK_new _ (wkv_none hk)]
    unfold wkv
    rw [List.map_append]
    congr 2
    congr 1
    · refine List.map_congr_left fun z hz => ?_
      show (kS z, V.ref (rs z)) = (kS z, V.ref (if z = k then p else rs z))
      rw [same z hz]
    · show [(kS k, V.ref p)] = [(kS k, V.ref (if k = k then p else rs k))]
      rw [if_pos rfl]
  · rcases List.mem_append.mp hz with hz | hz
    · rw [same z hz]
      obtain ⟨h1, h2⟩ := w.row z hz
      refine ⟨h1, ?_⟩
      rw [upd_ne (ne_of h2 w.hd fun q => nomatch q), upd_ne (ne_of_none h2 hp)]
      exact h2
    · obtain rfl := List.mem_singleton.mp hz
      rw [if_pos rfl]
      refine ⟨fresh_back w.e hp, ?_⟩
      rw [upd_ne hpd, upd_same, hf]
      rfl
  · rcases List.mem_append.mp hy with hy | hy <;> rcases List.mem_append.mp hz with hz | hz
    · rw [same y hy, same z hz] at q
      exact w.inj y hy z hz q
    · have ez := List.mem_singleton.mp hz
      rw [same y hy, if_pos ez] at q
      exact absurd q (ne_of_none (w.row y hy).2 hp)
    · have ey := List.mem_singleton.mp hy
      rw [same z hz, if_pos ey] at q
      exact absurd q.symm (ne_of_none (w.row z hz).2 hp)
    · rw [List.mem_singleton.mp hy, List.mem_singleton.mp hz]
theorem Wb.app {Hb H : Hp} {d : Addr} {ks : List Str} {f : Str → List Str} {rs : Str → Addr} {k x : Str} (w : Wb Hb H d ks f rs) (hk : k ∈ ks) :
    Wb Hb (upd H (rs k) (.lst ((f k).map V.str ++ [.str x]))) d ks (fun z => if z = k then f k ++ [x] else f z) rs := by
  obtain ⟨h1, h2⟩ := w.row k hk
  refine ⟨Ex.mut w.e h1, w.nd, w.nk, ?_, fun z hz => ⟨(w.row z hz).1, ?_⟩, w.inj⟩
  · rw [upd_ne (ne_of w.hd h2 fun q => nomatch q)]
    exact w.hd
  · by_cases hzk : z = k
    · subst hzk
      rw [upd_same, if_pos rfl, List.map_append]
      rfl
    · rw [upd_ne fun q => hzk (w.inj z hz k hk q), if_neg hzk]
      exact (w.row z hz).2
theorem Wb.as {Hb H : Hp} {d : Addr} {ks : List Str} {f g : Str → List Str} {rs : Str → Addr} (w : Wb Hb H d ks f rs) (h : ∀ k ∈ ks, f k = g k) : Wb Hb H d ks g rs :=
  ⟨w.e, w.nd, w.nk, w.hd, fun k hk => by rw [← h k hk]; exact w.row k hk, w.inj⟩
theorem Wb.new {Hb H : Hp} {d p : Addr} {ks : List Str} {f : Str → List Str} {rs : Str → Addr} {o : HO} (w : Wb Hb H d ks f rs) (hp : H p = none) : Wb Hb (upd H p o) d ks f rs :=
  ⟨w.e.trans (Ex.new hp), w.nd, w.nk, Ex.new hp _ _ w.hd, fun k hk => ⟨(w.row k hk).1, Ex.new hp _ _ (w.row k hk).2⟩, w.inj⟩
theorem Wb.ex {Hb H H' : Hp} {d : Addr} {ks : List Str} {f : Str → List Str} {rs : Str → Addr} (w : Wb Hb H d ks f rs) (e : Ex H H') : Wb Hb H' d ks f rs :=
  ⟨w.e.trans e, w.nd, w.nk, e _ _ w.hd, fun k hk => ⟨(w.row k hk).1, e _ _ (w.row k hk).2⟩, w.inj⟩
theorem Ex.upd2 {H H' : Hp} {p : Addr} {o : HO} (e : Ex H H') : Ex (upd H p o) (upd H' p o) := fun a u h => by
  by_cases q : a = p
  · subst q
    rw [upd_same] at h ⊢
    exact h
  · rw [upd_ne q] at h ⊢
    exact e a u h
/-- a new thing in the base too .. -/
theorem Wb.up {Hb H : Hp} {d p : Addr} {ks : List Str} {f : Str → List Str} {rs : Str → Addr} {o : HO} (w : Wb Hb H d ks f rs) (hp : H p = none) : Wb (upd Hb p o) (upd H p o) d ks f rs :=
  ⟨My.Ex.upd2 w.e, by rw [upd_ne (ne_of_none w.hd hp)]; exact w.nd, w.nk, Ex.new hp _ _ w.hd, fun k hk => ⟨by rw [upd_ne (ne_of_none (w.row k hk).2 hp)]; exact (w.row k hk).1, Ex.new hp _ _ (w.row k hk).2⟩, w.inj⟩
/-- .. and no more -/
theorem Wb.down {Hb H : Hp} {d p : Addr} {ks : List Str} {f : Str → List Str} {rs : Str → Addr} {o : HO} (w : Wb (upd Hb p o) H d ks f rs) (hp : Hb p = none) : Wb Hb H d ks f rs :=
  ⟨(Ex.new hp).trans w.e, fresh_back (Ex.new hp) w.nd, w.nk, w.hd, fun k hk => ⟨fresh_back (Ex.new hp) (w.row k hk).1, (w.row k hk).2⟩, w.inj⟩
/-- .. and done -/
def Wd (H : Hp) (d : Addr) (ks : List Str) (f : Str → List Str) : Prop := ∃ rs : Str → Addr, H d = some (.dK (wkv rs ks)) ∧ ∀ k ∈ ks, H (rs k) = some (.lst ((f k).map V.str))
theorem Wb.wd {Hb H : Hp} {d : Addr} {ks : List Str} {f : Str → List Str} {rs : Str → Addr} (w : Wb Hb H d ks f rs) : Wd H d ks f := ⟨rs, w.hd, fun k hk => (w.row k hk).2⟩
theorem Wd.ex {H H' : Hp} {d : Addr} {ks : List Str} {f : Str → List Str} (e : Ex H H') (w : Wd H d ks f) : Wd H' d ks f := by
  obtain ⟨rs, h1, h2⟩ := w
  exact ⟨rs, e _ _ h1, fun k hk => e _ _ (h2 k hk)⟩
theorem Wd.get {H : Hp} {d : Addr} {ks : List Str} {f : Str → List Str} (w : Wd H d ks f) {k : Str} (hk : k ∈ ks) : ∃ r, (∀ H', Ex H H' → DGet H' d (.str k) (some (.ref r))) ∧ H r = some (.lst ((f k).map V.str)) := by
  obtain ⟨rs, h1, h2⟩ := w
  refine ⟨rs k, fun H' e => ?_, h2 k hk⟩
  rw [← wkv_val (rs := rs) hk]
  exact DGet.k (k := kS k) (e _ _ h1)
theorem trues_in {ks : List Str} {k : Str} : (valV (trues ks) (kS k)).isSome = decide (k ∈ ks) := valV_keys (trues_keys ks) k
theorem snoc_cases {α : Type} (l : List α) : l = [] ∨ ∃ L b, l = L ++ [b] := by
  rcases List.eq_nil_or_concat l with h | ⟨L, b, h⟩
  · exact .inl h
  · exact .inr ⟨L, b, by rw [h, List.concat_eq_append]⟩
/-- what stands by a key -/
def grp (key g : Str → Str) (ws : List Str) (p : Str) : List Str := (ws.filter fun x => decide (key x = p)).map g
theorem grp_none {key g : Str → Str} {ws : List Str} {p : Str} (h : ∀ x ∈ ws, key x ≠ p) : grp key g ws p = [] := by
  unfold grp
  rw [List.filter_eq_nil_iff.mpr fun x hx q => h x hx (of_decide_eq_true q)]
  rfl
theorem grp_snoc {key g : Str → Str} {ws : List Str} {z p : Str} : grp key g (ws ++ [z]) p = if p = key z then grp key g ws (key z) ++ [g z] else grp key g ws p := by
  unfold grp
  rw [List.filter_append, List.map_append]
  by_cases h : p = key z
  · subst h
    rw [if_pos rfl, List.filter_cons, if_pos (decide_eq_true rfl)]
    rfl
  · rw [if_neg h, List.filter_cons, if_neg (fun q => h (of_decide_eq_true q).symm)]
    exact List.append_nil _
theorem take_snoc {α : Type} {ws : List α} {i : Nat} {z : α} (h : ws[i]? = some z) : ws.take (i + 1) = ws.take i ++ [z] := by
  rw [List.take_add_one, h]
  rfl
theorem last_at {α β : Type} {f : α → β} {l : List α} {x : α} : ((l ++ [x]).map f)[((l ++ [x]).map f).length - 1]? = some (f x) := by
  rw [List.length_map, List.length_append, List.map_append]
  have e : l.length + [x].length - 1 = (l.map f).length := by rw [List.length_map]; rfl
  rw [e, List.getElem?_append_right (Nat.le_refl _), Nat.sub_self]
  rfl
theorem drop_last {α β : Type} {f : α → β} {l : List α} {x : α} : ((l ++ [x]).map f).dropLast = l.map f := by
  rw [List.map_append]
  exact List.dropLast_concat
/-- x != [] -/
theorem ne_nilS {l : List Str} {x : Str} : (!PyData.eqv (strsL (l ++ [x])) (.list [])) = true := by
  show (!PyData.eqvAll ((l ++ [x]).map .str) (([] : List Str).map .str)) = true
  rw [eqvStrs, decide_eq_false (by simp)]
  rfl
theorem grp_len (key g : Str → Str) (ws : List Str) (p : Str) : (grp key g ws p).length ≤ ws.length := by
  unfold grp
  rw [List.length_map]
  exact List.length_filter_le ..
/-! ### what is come to, as a list -/
noncomputable def rchB (ws : List Str) (p q : Str) : Bool := @decide (Rch (nxts ws) p q) (Classical.propDecidable _)
theorem rchB_iff {ws : List Str} {p q : Str} : rchB ws p q = true ↔ Rch (nxts ws) p q := by
  unfold rchB
  exact @decide_eq_true_iff _ (Classical.propDecidable _)
noncomputable def rchL (ws : List Str) (p : Str) : List Str := (places ws).filter (rchB ws p)
theorem rchL_mem {ws : List Str} {p q : Str} (hp : p ∈ plcs ws) : q ∈ rchL ws p ↔ Rch (nxts ws) p q := by
  unfold rchL
  rw [List.mem_filter, places_mem, rchB_iff]
  exact ⟨fun h => h.2, fun h => ⟨rch_plc hp h, h⟩⟩
theorem rchL_asc (ws : List Str) (p : Str) : Asc (rchL ws p) := List.Pairwise.filter _ (places_asc ws)
theorem rchL_ks {ws ks : List Str} {p : Str} (hp : p ∈ plcs ws) (nd : ks.Nodup) (h : ∀ q, q ∈ ks ↔ Rch (nxts ws) p q) : sortS ks = rchL ws p :=
  asc_ext (sortS_asc nd) (rchL_asc ws p) fun q => by rw [sortS_mem, h q, rchL_mem hp]
/-- not all is come to -/
noncomputable def shy (ws : List Str) (p : Str) : Bool := decide ((rchL ws p).length < (places ws).length)
theorem filter_all {α : Type} {f : α → Bool} : ∀ {l : List α}, ¬ (l.filter f).length < l.length → ∀ x ∈ l, f x = true
  | [], _, _, h => (List.not_mem_nil h).elim
  | y :: l, hn, x, hx => by
    have hle := List.length_filter_le f l
    by_cases hy : f y = true
    · rw [List.filter_cons, if_pos hy, List.length_cons, List.length_cons] at hn
      rcases List.mem_cons.mp hx with rfl | hx
      · exact hy
      · exact filter_all (by omega) x hx
    · rw [List.filter_cons, if_neg hy, List.length_cons] at hn
      omega
theorem shy_no {ws : List Str} {p : Str} (h : shy ws p = false) : ∀ q ∈ plcs ws, Rch (nxts ws) p q := fun q hq => by
  have z := filter_all (of_decide_eq_false h) q (places_mem.mpr hq)
  exact rchB_iff.mp z
theorem shy_of {ws : List Str} {p : Str} (h : ∀ q ∈ plcs ws, Rch (nxts ws) p q) : shy ws p = false := by
  unfold shy rchL
  rw [List.filter_eq_self.mpr fun q hq => rchB_iff.mpr (h q (places_mem.mp hq))]
  exact decide_eq_false (Nat.lt_irrefl _)
/-- the first place from which not all is come to: what is -/
noncomputable def closed (ws : List Str) : Option (List Str) := ((places ws).find? (shy ws)).map (rchL ws)
noncomputable def closedD (ws : List Str) : PyData := match closed ws with
  | none => .none
  | some l => strsT l
theorem closed_none {ws : List Str} : closed ws = none ↔ Hang ws := by
  unfold closed
  rw [Option.map_eq_none_iff, List.find?_eq_none]
  constructor
  · intro h p hp q hq
    exact shy_no (Bool.eq_false_iff.mpr (h p (places_mem.mpr hp))) q hq
  · intro h p hp
    exact Bool.eq_false_iff.mp (shy_of (h p (places_mem.mp hp)))
theorem find_at {α : Type} {f : α → Bool} : ∀ {l : List α} {i : Nat} {p : α}, (∀ x ∈ l.take i, f x = false) → l[i]? = some p → f p = true → l.find? f = some p
  | [], _, _, _, h, _ => by cases h
  | y :: l, 0, p, _, h, hp => by
    obtain rfl := Option.some.inj h
    rw [List.find?_cons, hp]
  | y :: l, i + 1, p, hn, h, hp => by
    rw [List.find?_cons, hn y (List.mem_cons_self ..)]
    exact find_at (fun x hx => hn x (List.mem_cons_of_mem _ hx)) h hp
theorem closedD_some {ws : List Str} {i : Nat} {p : Str} (hn : ∀ x ∈ (places ws).take i, shy ws x = false) (hi : (places ws)[i]? = some p) (hp : shy ws p = true) : closedD ws = strsT (rchL ws p) := by
  unfold closedD closed
  rw [find_at hn hi hp]
  rfl
theorem closedD_none {ws : List Str} (h : ∀ x ∈ places ws, shy ws x = false) : closedD ws = .none := by
  have : closed ws = none := by
    unfold closed
    rw [List.find?_eq_none.mpr fun x hx => Bool.eq_false_iff.mp (h x hx)]
    rfl
  unfold closedD
  rw [this]
theorem closedD_hang {ws : List Str} (h : Hang ws) : closedD ws = .none := by
  unfold closedD
  rw [closed_none.mpr h]
theorem closedD_not {ws : List Str} (h : ¬ Hang ws) : ∃ l, closedD ws = strsT l := by
  unfold closedD
  cases e : closed ws with
  | none => exact absurd (closed_none.mp e) h
  | some l => exact ⟨l, rfl⟩
end My

/-! comprehensions over texts; windows left out -/
namespace My
open PySem PySem.Spec PyProof.Rows L2 Evl
/-- promises a new list of texts -/
def NewL (ws : List Str) (H : Hp) (Q : VK) : Prop := ∀ a H', Ex H H' → H a = none → H' a = some (.lst (ws.map V.str)) → Q (.ref a) H'
def atS (ws : List Str) (i : Nat) : Str := ws.getD i (tx [])
theorem atS_of {ws : List Str} {i : Nat} {z : Str} (h : ws[i]? = some z) : atS ws i = z := by
  unfold atS
  rw [List.getD_eq_getElem?_getD, h]
  rfl
theorem range_atS (ws : List Str) : (List.range ws.length).map (atS ws) = ws := by
  apply List.ext_getElem
  · simp
  · intro i h1 h2
    rw [List.getElem_map, List.getElem_range]
    exact atS_of (List.getElem?_eq_getElem h2)
theorem givenS (ws : List Str) (p : Str → Bool) (F : Str → PyData) : givenD ws.length (fun i => p (atS ws i)) (fun i => F (atS ws i)) = (ws.filter p).map F := by
  unfold givenD
  have e : (List.range ws.length).filter (fun i => p (atS ws i)) = (List.range ws.length).filter (p ∘ atS ws) := rfl
  have e2 : (fun i => F (atS ws i)) = F ∘ atS ws := rfl
  rw [e, e2, ← List.map_map, ← List.filter_map, range_atS]
section
variable {K : PySem.W.Frag} {H1 : Hp} {g : TG} {tt : TT} {te : TE} {vs : List Nat} {σ : L2.St} {D : Addr} {Qd : Hp → Prop}
abbrev LcsTurn (K : PySem.W.Frag) (H1 : Hp) (ws : List Str) (g : TG) (tt : TT) (te : TE) (vs : List Nat) (σ : L2.St) (p : Str → Bool) (F : Str → PyData) : Prop :=
  ∀ (z : Str) (H2 : Hp) (Y : VK) (Z : Hp → Prop), z ∈ ws → Ex H1 H2 → (p z = true → ∀ y H3, Ex H2 H3 → Dp K H3 y (F z) → Y y H3) → (p z = false → ∀ H3, Ex H2 H3 → Z H3) →
    g (.str z) (wipe σ vs) H2 fun σ2 H3 => wipe σ2 vs = wipe σ vs ∧ tt σ2 H3 fun b H4 => if b = true then te σ2 H4 Y else Z H4
abbrev LcsEnd (K : PySem.W.Frag) (H1 : Hp) (ws : List Str) (p : Str → Bool) (F : Str → PyData) (D : Addr) (Qd : Hp → Prop) : Prop :=
  ∀ H' acc, Ex H1 H' → H' D = some (.lst acc) → DpAll K H' acc ((ws.filter p).map F) → Qd H'
theorem lcs_turn {ws : List Str} {p : Str → Bool} {F : Str → PyData} (hs : LcsTurn K H1 ws g tt te vs σ p F) : LcTurn K H1 (ws.map V.str).length (fun i x _ => (ws.map V.str)[i]? = some x) g tt te vs σ (fun i => p (atS ws i)) (fun i => F (atS ws i)) := by
  intro i x H2 Y Z hi e it hy hn
  obtain ⟨z, hz, rfl⟩ := str_at it
  refine hs z H2 Y Z (List.mem_of_getElem? hz) e (fun h => ?_) (fun h => ?_)
  · rw [← atS_of hz] at h ⊢
    exact hy h
  · rw [← atS_of hz] at h
    exact hn h
theorem lcs_end {ws : List Str} {p : Str → Bool} {F : Str → PyData} (hd : LcsEnd K H1 ws p F D Qd) : LcEnd K H1 (ws.map V.str).length (fun i => p (atS ws i)) (fun i => F (atS ws i)) D Qd := fun H' acc e hp ha => by
  rw [List.length_map, givenS] at ha
  exact hd H' acc e hp ha
theorem lcs_tp {a : Addr} {ws : List Str} (h : SqT K H1 a (ws.map V.str)) (p : Str → Bool) (F : Str → PyData) (np : H1 D = none) (hn : ws.length ≤ 1000000) (nl : ∀ z ∈ ws, noList (F z) = true) (hs : LcsTurn K H1 ws g tt te vs σ p F) (hd : LcsEnd K H1 ws p F D Qd) : LcGo (Itt K a) H1 g tt te vs σ D Qd :=
  lc_tp h _ _ np (by rw [List.length_map]; exact hn) (fun i hi => by
    rw [List.length_map] at hi
    rw [atS_of (List.getElem?_eq_getElem hi)]
    exact nl _ (List.getElem_mem hi)) (lcs_turn hs) (lcs_end hd)
theorem lcs_lst {a : Addr} {ws : List Str} (h : SqL K H1 a (ws.map V.str)) (p : Str → Bool) (F : Str → PyData) (np : H1 D = none) (hn : ws.length ≤ 1000000) (nl : ∀ z ∈ ws, noList (F z) = true) (hs : LcsTurn K H1 ws g tt te vs σ p F) (hd : LcsEnd K H1 ws p F D Qd) : LcGo (Itl K a) H1 g tt te vs σ D Qd :=
  lc_lst h _ _ np (by rw [List.length_map]; exact hn) (fun i hi => by
    rw [List.length_map] at hi
    rw [atS_of (List.getElem?_eq_getElem hi)]
    exact nl _ (List.getElem_mem hi)) (lcs_turn hs) (lcs_end hd)
theorem lcs_sq {a : Addr} {ws : List Str} {Qd : Addr → Hp → Prop} (h : Sq K H1 a (ws.map V.str)) (p : Str → Bool) (F : Str → PyData) (hn : ws.length ≤ 1000000) (nl : ∀ z ∈ ws, noList (F z) = true) (hs : LcsTurn K H1 ws g tt te vs σ p F)
    (hd : ∀ D, H1 D = none → LcsEnd K H1 ws p F D (Qd D)) :
    ((∃ xs, SqL K H1 a xs) ∧ ∀ D, H1 D = none → LcGo (Itl K a) H1 g tt te vs σ D (Qd D)) ∨ ((∃ xs, SqT K H1 a xs) ∧ ∀ D, H1 D = none → LcGo (Itt K a) H1 g tt te vs σ D (Qd D)) :=
  h.elim (fun q => .inl ⟨⟨_, q⟩, fun D np => lcs_lst q p F np hn nl hs (hd D np)⟩) fun q => .inr ⟨⟨_, q⟩, fun D np => lcs_tp q p F np hn nl hs (hd D np)⟩
end
theorem inV_strs (x : Str) (ws : List Str) : inV (.str x) (ws.map V.str) = decide (x ∈ ws) := by
  unfold inV
  rw [List.any_map]
  by_cases h : x ∈ ws
  · rw [decide_eq_true h]
    exact List.any_eq_true.mpr ⟨x, h, by simp [eqV]⟩
  · rw [decide_eq_false h]
    refine Bool.eq_false_iff.mpr fun z => h ?_
    obtain ⟨y, hy, e⟩ := List.any_eq_true.mp z
    have e2 : y = x := by simpa [eqV] using e
    exact e2 ▸ hy
theorem flat_strs (ws : List Str) : (ws.map V.str).all flatV = true := by
  rw [List.all_map]
  exact List.all_eq_true.mpr fun _ _ => rfl
/-- the windows without a lot -/
def minus (ws lot : List Str) : List Str := ws.filter fun x => !decide (x ∈ lot)
theorem minus_mem {ws lot : List Str} {x : Str} : x ∈ minus ws lot ↔ x ∈ ws ∧ x ∉ lot := by
  unfold minus
  rw [List.mem_filter, Bool.not_eq_true', decide_eq_false_iff_not]
theorem minus_len (ws lot : List Str) : (minus ws lot).length ≤ ws.length := List.length_filter_le ..
theorem minus_asc {ws lot : List Str} (h : Asc ws) : Asc (minus ws lot) := List.Pairwise.filter _ h
theorem filter_strs (ws : List Str) (p : Str → Bool) : (ws.filter p).map PyData.str = (ws.filter p).map PyData.str := rfl
/-- a list of bools that all are true -/
theorem bls_all {K : PySem.W.Frag} {H : Hp} {acc : List V} {α : Type} {xs : List α} {f : α → Bool} (h : DpAll K H acc (xs.map fun x => PyData.bool (f x))) : acc = (xs.map f).map V.bl := bls_dpa (by rw [List.map_map]; exact h)
theorem filter_true {α : Type} (xs : List α) : xs.filter (fun _ => true) = xs := List.filter_eq_self.mpr fun _ _ => rfl
/-- x != () -/
theorem ne_nilT (l : List Str) : (!PyData.eqv (strsT l) (.tuple [])) = !decide (l = []) := by
  show (!PyData.eqvAll (l.map .str) (([] : List Str).map .str)) = _
  rw [eqvStrs]
theorem cut_to (x : Str) (k : Nat) : cutS x none (some (k : Int)) = tx ((sg x).take k) := by
  unfold cutS tx sg
  have e1 : HT.sIx x.length 0 none = 0 := rfl
  have e2 : HT.sIx x.length x.length (some (k : Int)) = min k x.length := HT.sIx_nat _ _ _
  rw [e1, e2, List.drop_zero, Nat.sub_zero]
  congr 2
  have hl : x.cps.toList.length = x.length := rfl
  by_cases h : k ≤ x.length
  · rw [Nat.min_eq_left h]
  · rw [Nat.min_eq_right (by omega), List.take_of_length_le (by omega), List.take_of_length_le (by omega)]
theorem cutV_to (xs : List V) (k : Nat) : cutV xs none (some (k : Int)) = xs.take k := by
  unfold cutV
  have e1 : HT.sIx xs.length 0 none = 0 := rfl
  have e2 : HT.sIx xs.length xs.length (some (k : Int)) = min k xs.length := HT.sIx_nat _ _ _
  rw [e1, e2, List.drop_zero, Nat.sub_zero]
  by_cases h : k ≤ xs.length
  · rw [Nat.min_eq_left h]
  · rw [Nat.min_eq_right (by omega), List.take_of_length_le (by omega), List.take_of_length_le (by omega)]
theorem map_eraseIdx {α β : Type} (f : α → β) : ∀ (l : List α) (k : Nat), (l.map f).eraseIdx k = (l.eraseIdx k).map f
  | [], _ => rfl
  | _ :: _, 0 => rfl
  | x :: l, k + 1 => congrArg (f x :: ·) (map_eraseIdx f l k)
/-! ### a ring text's steps -/
def cyc (l : List Nat) (i n : Nat) : List Nat := (List.range n).map fun j => l.getD ((i + j) % l.length) 0
def rnd (n : Nat) (r : Str) : List Str := (List.range r.length).map fun i => tx (cyc (sg r) i n)
def rep (k : Nat) (l : List Nat) : List Nat := (List.replicate k l).flatten
theorem rep_len (k : Nat) (l : List Nat) : (rep k l).length = k * l.length := by
  unfold rep
  rw [List.length_flatten, List.map_replicate, List.sum_replicate_nat]
theorem rep_snoc (k : Nat) (l : List Nat) : rep (k + 1) l = rep k l ++ l := by
  unfold rep
  rw [List.replicate_succ', List.flatten_append]
  simp
theorem rep_get {l : List Nat} : ∀ {k m : Nat}, m < k * l.length → (rep k l)[m]? = some (l.getD (m % l.length) 0)
  | 0, m, h => by omega
  | k + 1, m, h => by
    have e : rep (k + 1) l = l ++ rep k l := by
      unfold rep
      rw [List.replicate_succ, List.flatten_cons]
    have hs : (k + 1) * l.length = k * l.length + l.length := Nat.succ_mul ..
    rw [e]
    by_cases hm : m < l.length
    · rw [List.getElem?_append_left hm, Nat.mod_eq_of_lt hm, List.getElem?_eq_getElem hm, List.getD_eq_getElem?_getD, List.getElem?_eq_getElem hm]
      rfl
    · rw [List.getElem?_append_right (by omega), rep_get (k := k) (by omega)]
      congr 2
      rw [Nat.mod_eq_sub_mod (by omega : m ≥ l.length)]
theorem rep_cut {l : List Nat} {k i n : Nat} (h : i + n ≤ k * l.length) : ((rep k l).drop i).take n = cyc l i n := by
  apply List.ext_getElem?
  intro j
  unfold cyc
  by_cases hj : j < n
  · rw [List.getElem?_take_of_lt hj, List.getElem?_drop, rep_get (by omega), List.getElem?_map, List.getElem?_range hj]
    rfl
  · rw [List.getElem?_eq_none (by rw [List.length_take]; omega), List.getElem?_eq_none (by rw [List.length_map, List.length_range]; omega)]
theorem cyc_len (l : List Nat) (i n : Nat) : (cyc l i n).length = n := by
  unfold cyc
  rw [List.length_map, List.length_range]
theorem rnd_len (n : Nat) (r : Str) : (rnd n r).length = r.length := by
  unfold rnd
  rw [List.length_map, List.length_range]
theorem cyc_mem {l : List Nat} {i n c : Nat} (hl : 0 < l.length) (h : c ∈ cyc l i n) : c ∈ l := by
  obtain ⟨j, _, rfl⟩ := List.mem_map.mp h
  have hm : (i + j) % l.length < l.length := Nat.mod_lt _ hl
  rw [List.getD_eq_getElem?_getD, List.getElem?_eq_getElem hm]
  exact List.getElem_mem hm
theorem rnd_mem {n : Nat} {r x : Str} (h : x ∈ rnd n r) : x.length = n ∧ ∀ c ∈ sg x, c ∈ sg r := by
  obtain ⟨i, hi, rfl⟩ := List.mem_map.mp h
  have hi := List.mem_range.mp hi
  exact ⟨cyc_len .., fun c hc => cyc_mem (by rw [← len_sg]; omega) hc⟩
/-! ### dicts by a function -/
def fkv (f : Str → V) (ks : List Str) : List (Key × V) := ks.map fun k => (kS k, f k)
theorem fkv_keys (f : Str → V) (ks : List Str) : (fkv f ks).map (·.1) = ks.map kS := by
  unfold fkv
  rw [List.map_map]
  rfl
theorem fkv_len (f : Str → V) (ks : List Str) : (fkv f ks).length = ks.length := List.length_map ..
theorem fkv_val {f : Str → V} {k : Str} : ∀ {ks : List Str}, k ∈ ks → valV (fkv f ks) (kS k) = some (f k)
  | z :: ks, h => by
    by_cases e : z = k
    · subst e
      exact valV_pos rfl
    · show valV ((kS z, f z) :: fkv f ks) (kS k) = _
      rw [valV_neg fun q => e (inr_inj.mp q)]
      exact fkv_val ((List.mem_cons.mp h).resolve_left fun q => e q.symm)
theorem fkv_none {f : Str → V} {k : Str} {ks : List Str} (h : k ∉ ks) : valV (fkv f ks) (kS k) = none := valV_none (fkv_keys f ks) h
theorem fkv_in {f : Str → V} {k : Str} {ks : List Str} : (valV (fkv f ks) (kS k)).isSome = decide (k ∈ ks) := valV_keys (fkv_keys f ks) k
theorem fkv_put {f : Str → V} {ks : List Str} {k : Str} {v : V} : putK (fkv f ks) (kS k) v = fkv (fun z => if z = k then v else f z) (addS ks k) := by
  unfold putK
  rw [valV_any, fkv_in]
  by_cases h : k ∈ ks
  · rw [if_pos (decide_eq_true h), addS, if_pos h]
    unfold fkv
    rw [List.map_map]
    refine List.map_congr_left fun z _ => ?_
    show (if kS z = kS k then (kS z, v) else (kS z, f z)) = (kS z, if z = k then v else f z)
    by_cases e : z = k
    · rw [if_pos (inr_inj.mpr e), if_pos e]
    · rw [if_neg fun q => e (inr_inj.mp q), if_neg e]
  · rw [if_neg (by rw [decide_eq_false h]; exact Bool.false_ne_true), addS, if_neg h]
    unfold fkv
    rw [List.map_append]
    congr 1
    · refine List.map_congr_left fun z hz => ?_
      have e : z ≠ k := fun q => h (q ▸ hz)
      show (kS z, f z) = (kS z, if z = k then v else f z)
      rw [if_neg e]
    · show [(kS k, v)] = [(kS k, if k = k then v else f k)]
      rw [if_pos rfl]
/-- how often -/
def cnt (xs : List Str) (s : Str) : Nat := (xs.filter fun y => decide (y = s)).length
theorem cnt_snoc (xs : List Str) (x s : Str) : cnt (xs ++ [x]) s = cnt xs s + (if s = x then 1 else 0) := by
  unfold cnt
  rw [List.filter_append, List.length_append]
  congr 1
  by_cases h : s = x
  · rw [if_pos h, List.filter_cons, if_pos (decide_eq_true h.symm)]
    rfl
  · rw [if_neg h, List.filter_cons, if_neg fun q => h (of_decide_eq_true q).symm]
    rfl
theorem cnt_no {xs : List Str} {s : Str} (h : s ∉ xs) : cnt xs s = 0 := by
  unfold cnt
  have e : (xs.filter fun y => decide (y = s)) = [] := List.filter_eq_nil_iff.mpr fun y hy q => by
    have e2 : y = s := of_decide_eq_true q
    exact h (e2 ▸ hy)
  rw [e]
  rfl
theorem cnt_le (xs : List Str) (s : Str) : cnt xs s ≤ xs.length := List.length_filter_le ..
/-- the dict of a tally -/
def tkv (xs : List Str) : List (Key × V) := fkv (fun s => .int (cnt xs s)) (ded xs)
theorem tkv_snoc (xs : List Str) (x : Str) : putK (tkv xs) (kS x) (.int ((cnt xs x : Int) + 1)) = tkv (xs ++ [x]) := by
  unfold tkv
  rw [fkv_put, ded_snoc]
  congr 1
  funext z
  rw [cnt_snoc]
  by_cases h : z = x
  · rw [if_pos h, if_pos h, h]
    rfl
  · rw [if_neg h, if_neg h]
    rfl
theorem tkv_get (xs : List Str) (x : Str) : (valV (tkv xs) (kS x)).getD (.int 0) = .int (cnt xs x) := by
  unfold tkv
  by_cases h : x ∈ ded xs
  · rw [fkv_val h]
    rfl
  · rw [fkv_none h, cnt_no fun q => h (ded_mem.mpr q)]
    rfl
/-- a sum of two tuples -/
theorem cat_T {K : PySem.W.Frag} {H : Hp} {a b : Addr} {xs ys : List V} {Q : VK} (h1 : SqT K H a xs) (h2 : SqT K H b ys) (hl : xs.length + ys.length ≤ sizeLine) (q : ∀ p H', Ex H H' → SqT K H' p (xs ++ ys) → Q (.ref p) H') : rCatA K (.ref a) (.ref b) H Q := by
  refine ⟨a, b, xs, ys, rfl, rfl, h1, h2, hl, fun e => ?_, fun _ e => ?_, fun _ _ p np => q _ _ (Ex.new np) (SqT.of upd_same)⟩
  · subst e
    exact q _ _ (Ex.refl _) h2
  · subst e
    exact q _ _ (Ex.refl _) (by rw [List.append_nil]; exact h1)
theorem cat_strs {K : PySem.W.Frag} {H : Hp} {a b : Addr} {xs ys : List Str} {Q : VK} (h1 : SqT K H a (xs.map V.str)) (h2 : SqT K H b (ys.map V.str)) (hl : xs.length + ys.length ≤ 1000000) (q : ∀ p H', Ex H H' → SqT K H' p ((xs ++ ys).map V.str) → Q (.ref p) H') : rCatA K (.ref a) (.ref b) H Q :=
  cat_T h1 h2 (by rw [List.length_map, List.length_map]; exact sz_of hl) fun p H' e h => q p H' e (by rw [List.map_append]; exact h)
/-! ### comprehensions over a list of data -/
section
variable {α : Type} [Inhabited α]
def atD (xs : List α) (i : Nat) : α := xs.getD i default
theorem atD_of {xs : List α} {i : Nat} {z : α} (h : xs[i]? = some z) : atD xs i = z := by
  unfold atD
  rw [List.getD_eq_getElem?_getD, h]
  rfl
theorem givenA (xs : List α) (p : α → Bool) (F : α → PyData) : givenD xs.length (fun i => p (atD xs i)) (fun i => F (atD xs i)) = (xs.filter p).map F := by
  unfold givenD
  have e : (List.range xs.length).filter (fun i => p (atD xs i)) = (List.range xs.length).filter (p ∘ atD xs) := rfl
  have e2 : (fun i => F (atD xs i)) = F ∘ atD xs := rfl
  have e3 : (List.range xs.length).map (atD xs) = xs := by
    apply List.ext_getElem
    · simp
    · intro i h1 h2
      rw [List.getElem_map, List.getElem_range]
      exact atD_of (List.getElem?_eq_getElem h2)
  rw [e, e2, ← List.map_map, ← List.filter_map, e3]
variable {K : PySem.W.Frag} {H1 : Hp} {g : TG} {tt : TT} {te : TE} {vs : List Nat} {σ : L2.St} {D : Addr} {Qd : Hp → Prop}
theorem lcd_lst {a : Addr} {acc : List V} {xs : List α} {C : α → PyData} (h : SqL K H1 a acc) (ha : DpAll K H1 acc (xs.map C)) (p : α → Bool) (F : α → PyData) (np : H1 D = none) (hn : xs.length ≤ 1000000) (nl : ∀ z ∈ xs, noList (F z) = true)
    (hs : ∀ (z : α) (v : V) (H2 : Hp) (Y : VK) (Z : Hp → Prop), z ∈ xs → Ex H1 H2 → Dp K H2 v (C z) → (p z = true → ∀ y H3, Ex H2 H3 → Dp K H3 y (F z) → Y y H3) → (p z = false → ∀ H3, Ex H2 H3 → Z H3) →
      g v (wipe σ vs) H2 fun σ2 H3 => wipe σ2 vs = wipe σ vs ∧ tt σ2 H3 fun b H4 => if b = true then te σ2 H4 Y else Z H4)
    (hd : ∀ H' acc, Ex H1 H' → H' D = some (.lst acc) → DpAll K H' acc ((xs.filter p).map F) → Qd H') : LcGo (Itl K a) H1 g tt te vs σ D Qd := by
  have hl : acc.length = xs.length := by rw [dpa_len ha, List.length_map]
  refine lc_lst h (fun i => p (atD xs i)) (fun i => F (atD xs i)) np (by omega) (fun i hi => ?_) (fun i x H2 Y Z hi e it hy hn => ?_) (fun H' acc' e hp hda => ?_)
  · rw [atD_of (List.getElem?_eq_getElem (by omega : i < xs.length))]
    exact nl _ (List.getElem_mem _)
  · obtain ⟨d, hd1, hd2⟩ := dpa_get ha it
    rw [List.getElem?_map] at hd1
    cases hx : xs[i]? with
    | none => rw [hx] at hd1; cases hd1
    | some z =>
      rw [hx] at hd1
      obtain rfl : C z = d := Option.some.inj hd1
      have ez := atD_of hx
      subst ez
      exact hs _ x H2 Y Z (List.mem_of_getElem? hx) e (dp_ex e hd2) hy hn
  · rw [hl, givenA] at hda
    exact hd H' acc' e hp hda
end
end My

/-! webs from behind -/
namespace My
open PySem PySem.Spec PyProof.Rows L2 Evl
theorem sg_rev (x : Str) : sg (revS x) = (sg x).reverse := rfl
theorem rev_rev (x : Str) : revS (revS x) = x := sg_inj (by rw [sg_rev, sg_rev, List.reverse_reverse])
theorem rev_inj {x y : Str} (h : revS x = revS y) : x = y := by rw [← rev_rev x, h, rev_rev]
theorem rev_len (x : Str) : (revS x).length = x.length := by rw [len_sg, sg_rev, List.length_reverse, ← len_sg]
theorem beg_rev (x : Str) : begS (revS x) = revS (endS x) := sg_inj (by
  show ((sg x).reverse).dropLast = ((sg x).drop 1).reverse
  rw [List.drop_one, List.dropLast_reverse])
theorem end_rev (x : Str) : endS (revS x) = revS (begS x) := sg_inj (by
  show ((sg x).reverse).drop 1 = ((sg x).dropLast).reverse
  rw [List.drop_one, List.tail_reverse])
theorem word_rev {x : Str} (h : Word x) : Word (revS x) := fun c hc => h c (List.mem_reverse.mp hc)
abbrev revs (ws : List Str) : List Str := ws.map revS
theorem plcs_revs {ws : List Str} {p : Str} : revS p ∈ plcs (revs ws) ↔ p ∈ plcs ws := by
  rw [plcs_mem, plcs_mem]
  constructor
  · rintro ⟨x, hx, h⟩
    obtain ⟨y, hy, rfl⟩ := List.mem_map.mp hx
    refine ⟨y, hy, ?_⟩
    rw [beg_rev, end_rev] at h
    exact h.elim (fun q => .inr (rev_inj q)) fun q => .inl (rev_inj q)
  · rintro ⟨y, hy, h⟩
    refine ⟨revS y, List.mem_map.mpr ⟨y, hy, rfl⟩, ?_⟩
    rw [beg_rev, end_rev]
    exact h.elim (fun q => .inr (by rw [q])) fun q => .inl (by rw [q])
theorem nxts_revs {ws : List Str} {p q : Str} : revS q ∈ nxts (revs ws) (revS p) ↔ p ∈ nxts ws q := by
  rw [nxts_mem, nxts_mem]
  constructor
  · rintro ⟨x, hx, h1, h2⟩
    obtain ⟨y, hy, rfl⟩ := List.mem_map.mp hx
    rw [beg_rev] at h1
    rw [end_rev] at h2
    exact ⟨y, hy, rev_inj h2, rev_inj h1⟩
  · rintro ⟨y, hy, h1, h2⟩
    exact ⟨revS y, List.mem_map.mpr ⟨y, hy, rfl⟩, by rw [beg_rev, h2], by rw [end_rev, h1]⟩
theorem rch_head {sc : Str → List Str} {a b c : Str} (h : b ∈ sc a) (r : Rch sc b c) : Rch sc a c := Rch.trans (Rch.refl.step h) r
theorem rch_revs1 {ws : List Str} {a : Str} : ∀ {z : Str}, Rch (nxts (revs ws)) (revS a) z → Rch (nxts ws) (revS z) a := by
  intro z h
  induction h with
  | refl =>
    rw [rev_rev]
    exact .refl
  | step h hc ih =>
    rename_i b c
    have e : revS (revS c) ∈ nxts (revs ws) (revS (revS b)) := by rw [rev_rev, rev_rev]; exact hc
    exact rch_head (nxts_revs.mp e) ih
theorem rch_revs {ws : List Str} {a b : Str} : Rch (nxts (revs ws)) (revS a) (revS b) ↔ Rch (nxts ws) b a := by
  constructor
  · intro h
    have z := rch_revs1 h
    rwa [rev_rev] at z
  · intro h
    induction h with
    | refl => exact .refl
    | step h hc ih =>
      rename_i x y
      exact rch_head (nxts_revs.mpr hc) ih
theorem nodup_full {ks l : List Str} (nd : ks.Nodup) (h : ∀ x ∈ ks, x ∈ l) (hl : l.length ≤ ks.length) : ∀ x ∈ l, x ∈ ks := fun x hx => by
  by_cases hk : x ∈ ks
  · exact hk
  · have z := nodup_len (ks := x :: ks) (l := l) (List.nodup_cons.mpr ⟨hk, nd⟩) fun y hy => (List.mem_cons.mp hy).elim (fun e => e ▸ hx) (h y)
    rw [List.length_cons] at z
    omega
theorem nodup_map {f : Str → Str} (hf : ∀ {x y}, f x = f y → x = y) : ∀ {l : List Str}, l.Nodup → (l.map f).Nodup
  | [], _ => List.nodup_nil
  | x :: l, h => by
    obtain ⟨h1, h2⟩ := List.nodup_cons.mp h
    rw [List.map_cons]
    refine List.nodup_cons.mpr ⟨fun q => h1 ?_, nodup_map hf h2⟩
    obtain ⟨y, hy, e⟩ := List.mem_map.mp q
    exact hf e ▸ hy
/-- what the law counts -/
theorem hangs_by {ws ks rks : List Str} {p : Str} (hp : p ∈ plcs ws) (nd : ks.Nodup) (h : ∀ q, q ∈ ks ↔ Rch (nxts ws) p q) (rnd : rks.Nodup) (rh : ∀ q, q ∈ rks ↔ Rch (nxts (revs ws)) (revS p) q) :
    (ks.length = (ded (plcs ws)).length ∧ (ded (plcs ws)).length = rks.length) ↔ Hang ws := by
  have sub : ∀ q ∈ ks, q ∈ ded (plcs ws) := fun q hq => ded_mem.mpr (rch_plc hp ((h q).mp hq))
  have rp : revS p ∈ plcs (revs ws) := plcs_revs.mpr hp
  have rsub : ∀ q ∈ rks.map revS, q ∈ ded (plcs ws) := fun q hq => by
    obtain ⟨y, hy, rfl⟩ := List.mem_map.mp hq
    have z := rch_plc rp ((rh y).mp hy)
    rw [← rev_rev y] at z
    exact ded_mem.mpr (plcs_revs.mp z)
  have rnd2 : (rks.map revS).Nodup := nodup_map rev_inj rnd
  have rl : (rks.map revS).length = rks.length := List.length_map ..
  have back : ∀ q, q ∈ rks.map revS ↔ Rch (nxts ws) q p := fun q => by
    rw [← rch_revs, ← rh]
    constructor
    · intro hq
      obtain ⟨y, hy, rfl⟩ := List.mem_map.mp hq
      rw [rev_rev]
      exact hy
    · intro hq
      exact List.mem_map.mpr ⟨_, hq, rev_rev q⟩
  constructor
  · rintro ⟨e1, e2⟩ a ha b hb
    have f1 := nodup_full nd sub (by omega) b (ded_mem.mpr hb)
    have f2 := nodup_full rnd2 rsub (by omega) a (ded_mem.mpr ha)
    exact ((back a).mp f2).trans ((h b).mp f1)
  · intro hh
    have l1 := nodup_len nd sub
    have l2 := nodup_len rnd2 rsub
    have l3 := nodup_len (ded_nd (plcs ws)) (l := ks) fun q hq => (h q).mpr (hh p hp q (ded_mem.mp hq))
    have l4 := nodup_len (ded_nd (plcs ws)) (l := rks.map revS) fun q hq => (back q).mpr (hh q (ded_mem.mp hq) p hp)
    omega
end My

/-! what may go from a web -/
namespace My
open PySem PySem.Spec PyProof.Rows L2 Evl
/-- all windows have n letters, n at least 2 -/
def Lng (ws : List Str) : Prop := ∃ n, 2 ≤ n ∧ ∀ x ∈ ws, x.length = n
theorem Lng.sub {ws vs : List Str} (h : Lng ws) (s : ∀ x ∈ vs, x ∈ ws) : Lng vs := by
  obtain ⟨n, h1, h2⟩ := h
  exact ⟨n, h1, fun x hx => h2 x (s x hx)⟩
theorem rch_mono {A B : List Str} (s : ∀ x ∈ A, x ∈ B) {a b : Str} (h : Rch (nxts A) a b) : Rch (nxts B) a b := by
  induction h with
  | refl => exact .refl
  | step _ hc ih =>
    obtain ⟨x, hx, h1, h2⟩ := nxts_mem.mp hc
    exact ih.step (nxts_mem.mpr ⟨x, s x hx, h1, h2⟩)
theorem rch_out {ws : List Str} {p q : Str} (h : Rch (nxts ws) p q) (hn : q ≠ p) : ∃ x ∈ ws, begS x = p ∧ endS x ≠ p := by
  induction h with
  | refl => exact absurd rfl hn
  | step hb hc ih =>
    rename_i b c
    by_cases e : b = p
    · subst e
      obtain ⟨x, hx, h1, h2⟩ := nxts_mem.mp hc
      exact ⟨x, hx, h1, by rw [h2]; exact hn⟩
    · exact ih e
theorem rch_in {ws : List Str} {p q : Str} (h : Rch (nxts ws) q p) (hn : q ≠ p) : ∃ x ∈ ws, endS x = p ∧ begS x ≠ p := by
  have key : ∀ {z : Str}, Rch (nxts ws) q z → z = p → ∃ x ∈ ws, endS x = p ∧ begS x ≠ p := by
    intro z h
    induction h with
    | refl => exact fun e => absurd e hn
    | step hb hc ih =>
      rename_i b c
      intro e
      by_cases e2 : b = p
      · exact ih e2
      · obtain ⟨x, hx, h1, h2⟩ := nxts_mem.mp hc
        exact ⟨x, hx, by rw [h2, e], by rw [h1]; exact e2⟩
  exact key h rfl
theorem loop_one {x y p : Str} (hl : 2 ≤ x.length) (hy : y.length = x.length) (h1 : begS x = p) (h2 : endS x = p) (h3 : begS y = p) (h4 : endS y = p) : x = y := by
  have s1 : (sg x).dropLast = sg p := congrArg sg h1
  have s2 : (sg x).drop 1 = sg p := congrArg sg h2
  have s3 : (sg y).dropLast = sg p := congrArg sg h3
  have s4 : (sg y).drop 1 = sg p := congrArg sg h4
  rw [len_sg] at hl hy
  rw [len_sg] at hy
  have key : ∀ {l : List Nat}, 2 ≤ l.length → l.dropLast = sg p → l.drop 1 = sg p → ∃ c, (sg p).head? = some c ∧ l = c :: sg p := by
    intro l hl d1 d2
    match l, hl with
    | a :: b :: r, _ =>
      refine ⟨a, ?_, ?_⟩
      · rw [← d1]
        rfl
      · rw [← d2]
        rfl
  obtain ⟨c, hc, e1⟩ := key hl s1 s2
  obtain ⟨d, hd, e2⟩ := key (by omega) s3 s4
  rw [hc] at hd
  cases hd
  exact sg_inj (e1.trans e2.symm)
theorem minus_sub {ws lot : List Str} : ∀ x ∈ minus ws lot, x ∈ ws := fun x hx => (minus_mem.mp hx).1
theorem plcs_sub {A B : List Str} (s : ∀ x ∈ A, x ∈ B) : ∀ p ∈ plcs A, p ∈ plcs B := fun p hp => by
  obtain ⟨x, hx, h⟩ := plcs_mem.mp hp
  exact plcs_mem.mpr ⟨x, s x hx, h⟩
/-- without one window, all places stand -/
theorem plcs_keep {C : List Str} {e : Str} (hl : Lng C) (hC : Hang C) (hne : minus C [e] ≠ []) : ∀ p ∈ plcs C, p ∈ plcs (minus C [e]) := by
  intro p hp
  by_cases hall : ∀ q ∈ plcs C, q = p
  · obtain ⟨x, hx⟩ := List.exists_mem_of_ne_nil _ hne
    have hxC := minus_sub x hx
    exact plcs_mem.mpr ⟨x, hx, .inl (hall _ (beg_mem hxC)).symm⟩
  · have : ∃ q, q ∈ plcs C ∧ q ≠ p := Classical.byContradiction fun h => hall fun q hq => Classical.byContradiction fun h2 => h ⟨q, hq, h2⟩
    obtain ⟨q, hq, hqp⟩ := this
    obtain ⟨x, hx, h1, h2⟩ := rch_out (hC p hp q hq) hqp
    obtain ⟨y, hy, h3, h4⟩ := rch_in (hC q hq p hp) hqp
    by_cases hxe : x = e
    · have hye : y ≠ e := fun z => h4 (by rw [z, ← hxe]; exact h1)
      exact plcs_mem.mpr ⟨y, minus_mem.mpr ⟨hy, fun z => hye (List.mem_singleton.mp z)⟩, .inr h3.symm⟩
    · exact plcs_mem.mpr ⟨x, minus_mem.mpr ⟨hx, fun z => hxe (List.mem_singleton.mp z)⟩, .inl h1.symm⟩
theorem hang_grow {A B : List Str} (s : ∀ x ∈ A, x ∈ B) (p : ∀ q ∈ plcs B, q ∈ plcs A) (h : Hang A) : Hang B := fun a ha b hb => rch_mono s (h a (p a ha) b (p b hb))
theorem minus_nil (ws : List Str) : minus ws [] = ws := List.filter_eq_self.mpr fun x _ => by
  rw [decide_eq_false (List.not_mem_nil)]
  rfl
theorem minus_snoc (ws R : List Str) (x : Str) : minus ws (R ++ [x]) = minus (minus ws R) [x] := by
  unfold minus
  rw [List.filter_filter]
  refine List.filter_congr fun y _ => ?_
  rw [← Bool.not_or]
  congr 1
  rw [Bool.eq_iff_iff, decide_eq_true_iff, Bool.or_eq_true, decide_eq_true_iff, decide_eq_true_iff, List.mem_append]
  exact or_comm
noncomputable def restF (ws : List Str) (acc : List Str) (x : Str) : List Str := if scB (minus ws (acc ++ [x])) = true then acc ++ [x] else acc
noncomputable def restL (ws : List Str) : List Str := ws.foldl (restF ws) []
/-- behind i windows -/
structure RestInv (ws : List Str) (i : Nat) (acc : List Str) : Prop where
  sub : ∀ x ∈ acc, x ∈ ws.take i
  own : acc = (ws.take i).filter fun x => decide (x ∈ acc)
  sc : Sc (minus ws acc)
  pl : ∀ p ∈ plcs ws, p ∈ plcs (minus ws acc)
  no : ∀ x ∈ ws.take i, x ∉ acc → ∃ b : List Str, (∀ y ∈ b, y ∈ acc) ∧ ¬ Sc (minus ws (b ++ [x]))
theorem restInv_at {ws : List Str} (nd : ws.Nodup) (hl : Lng ws) (h : Sc ws) : ∀ {i : Nat}, i ≤ ws.length → RestInv ws i ((ws.take i).foldl (restF ws) [])
  | 0, _ => ⟨fun x hx => (List.not_mem_nil hx).elim, rfl, by rw [List.take_zero]; show Sc (minus ws []); rw [minus_nil]; exact h, fun p hp => by rw [List.take_zero]; show p ∈ plcs (minus ws []); rw [minus_nil]; exact hp, fun x hx => by rw [List.take_zero] at hx; cases hx⟩
  | i + 1, hi => by
    have hz : ws[i]? = some ws[i] := List.getElem?_eq_getElem (by omega)
    have I := restInv_at nd hl h (i := i) (by omega)
    rw [take_snoc hz, List.foldl_append]
    generalize ws[i] = z at hz
    generalize (ws.take i).foldl (restF ws) [] = acc at I
    have zt : z ∉ ws.take i := fun hm => by
      have e : ws = ws.take i ++ z :: ws.drop (i + 1) := by
        have h1 := (List.take_append_drop i ws).symm
        rw [List.drop_eq_getElem_cons (by omega : i < ws.length)] at h1
        have h2 : ws[i] = z := by
          rw [List.getElem?_eq_getElem (by omega)] at hz
          exact Option.some.inj hz
        rw [h2] at h1
        exact h1
      rw [e] at nd
      exact (List.nodup_append.mp nd).2.2 z hm z (List.mem_cons_self ..) rfl
    have zacc : z ∉ acc := fun hm => zt (I.sub z hm)
    show RestInv ws (i + 1) (restF ws acc z)
    have tk := take_snoc hz
    unfold restF
    split
    · rename_i hs
      have hS := scB_iff.mp hs
      refine ⟨fun x hx => ?_, ?_, hS, fun p hp => ?_, fun x hx hn => ?_⟩
      · rw [tk]
        exact (List.mem_append.mp hx).elim (fun q => List.mem_append_left _ (I.sub x q)) fun q => List.mem_append_right _ q
      · rw [tk, List.filter_append]
        congr 1
        · refine I.own.trans (List.filter_congr fun x hx => ?_)
          rw [decide_eq_decide, List.mem_append]
          exact ⟨.inl, fun q => q.resolve_right fun q => zt (List.mem_singleton.mp q ▸ hx)⟩
        · rw [List.filter_cons, if_pos (decide_eq_true (List.mem_append_right _ (List.mem_singleton.mpr rfl)))]
          rfl
      · rw [minus_snoc]
        rw [minus_snoc] at hS
        exact plcs_keep (hl.sub minus_sub) I.sc.2 hS.1 p (I.pl p hp)
      · rw [tk] at hx
        rcases List.mem_append.mp hx with hx | hx
        · obtain ⟨b, hb1, hb2⟩ := I.no x hx fun q => hn (List.mem_append_left _ q)
          exact ⟨b, fun y hy => List.mem_append_left _ (hb1 y hy), hb2⟩
        · exact absurd (List.mem_append_right _ hx) hn
    · rename_i hs
      refine ⟨fun x hx => by rw [tk]; exact List.mem_append_left _ (I.sub x hx), ?_, I.sc, I.pl, fun x hx hn => ?_⟩
      · rw [tk, List.filter_append, List.filter_cons, if_neg (by rw [decide_eq_false zacc]; exact Bool.false_ne_true), List.filter_nil, List.append_nil]
        exact I.own
      · rw [tk] at hx
        rcases List.mem_append.mp hx with hx | hx
        · exact I.no x hx hn
        · rw [List.mem_singleton.mp hx]
          exact ⟨acc, fun y hy => hy, fun q => hs (scB_iff.mpr q)⟩
theorem asc_nodup {ws : List Str} (h : Asc ws) : ws.Nodup := h.nodup
/-- what rest gives -/
theorem rest_right {ws : List Str} (nd : ws.Nodup) (hl : Lng ws) (h : Sc ws) : restL ws = ws.filter (fun x => decide (x ∈ restL ws)) ∧ Sc (minus ws (restL ws)) ∧ ∀ x ∈ minus ws (restL ws), ¬ Sc (minus (minus ws (restL ws)) [x]) := by
  have I := restInv_at nd hl h (Nat.le_refl ws.length)
  rw [take_len] at I
  have e : ws.foldl (restF ws) [] = restL ws := rfl
  rw [e] at I
  obtain ⟨i1, i2, i3, i4, i5⟩ := I
  rw [take_len] at i2 i5
  refine ⟨i2, i3, fun x hx hS => ?_⟩
  obtain ⟨hx1, hx2⟩ := minus_mem.mp hx
  obtain ⟨b, hb1, hb2⟩ := i5 x hx1 hx2
  apply hb2
  have sub : ∀ y ∈ minus (minus ws (restL ws)) [x], y ∈ minus ws (b ++ [x]) := fun y hy => by
    obtain ⟨h1, h2⟩ := minus_mem.mp hy
    obtain ⟨h3, h4⟩ := minus_mem.mp h1
    exact minus_mem.mpr ⟨h3, fun q => (List.mem_append.mp q).elim (fun q => h4 (hb1 y q)) h2⟩
  refine ⟨fun z => ?_, hang_grow sub (fun p hp => ?_) hS.2⟩
  · obtain ⟨y, hy⟩ := List.exists_mem_of_ne_nil _ hS.1
    have := sub y hy
    rw [z] at this
    cases this
  · exact plcs_keep (hl.sub minus_sub) i3.2 hS.1 p (i4 p (plcs_sub minus_sub p hp))
end My

/-! a well: a list of three ints that a law's draws change. G is the heap without it -/
namespace My
open PySem PySem.Spec PyProof.Rows L2 Evl
structure Wt (w : Addr) (c : Nat) (G H : Hp) : Prop where
  e : Ex G H
  n : G w = none
  h : ∃ (g m : Int) (k : Nat), k ≤ c ∧ H w = some (.lst [.int g, .int m, .int k])
def hide (w : Addr) (H : Hp) : Hp := fun a => if a = w then none else H a
theorem hide_at {w : Addr} {H : Hp} : hide w H w = none := if_pos rfl
theorem hide_ne {w a : Addr} {H : Hp} (h : a ≠ w) : hide w H a = H a := if_neg h
theorem hide_ex {w : Addr} {H : Hp} : Ex (hide w H) H := fun a o h => by
  by_cases e : a = w
  · rw [e, hide_at] at h
    cases h
  · rw [hide_ne e] at h
    exact h
section
variable {w : Addr} {c : Nat} {G H H' : Hp}
theorem Wt.up {d : Nat} (W : Wt w c G H) (h : c ≤ d) : Wt w d G H := by
  obtain ⟨g, m, k, hk, e⟩ := W.h
  exact ⟨W.e, W.n, g, m, k, by omega, e⟩
/-- what a call that leaves the well alone has made: a heap without the well -/
theorem Wt.ex (W : Wt w c G H) (e : Ex H H') : ∃ G', Ex G G' ∧ Wt w c G' H' ∧ G' = hide w H' := by
  obtain ⟨g, m, k, hk, hw⟩ := W.h
  refine ⟨hide w H', fun a o h => ?_, ⟨hide_ex, hide_at, g, m, k, hk, e _ _ hw⟩, rfl⟩
  rw [hide_ne (ne_of_none h W.n)]
  exact e _ _ (W.e _ _ h)
/-- a new thing -/
theorem Wt.new {p : Addr} {o : HO} (W : Wt w c G H) (np : H p = none) : Wt w c (upd G p o) (upd H p o) := by
  obtain ⟨g, m, k, hk, hw⟩ := W.h
  have hne : w ≠ p := ne_of_none hw np
  exact ⟨My.Ex.upd2 W.e, by rw [upd_ne hne]; exact W.n, g, m, k, hk, by rw [upd_ne hne]; exact hw⟩
/-- a change of a thing that is not the well -/
theorem Wt.mut {p : Addr} {o o' : HO} (W : Wt w c G H) (hp : G p = some o) : Wt w c (upd G p o') (upd H p o') := by
  obtain ⟨g, m, k, hk, hw⟩ := W.h
  have hne : w ≠ p := fun e => by
    have n := W.n
    rw [e, hp] at n
    cases n
  exact ⟨My.Ex.upd2 W.e, by rw [upd_ne hne]; exact W.n, g, m, k, hk, by rw [upd_ne hne]; exact hw⟩
theorem Wt.free {p : Addr} (W : Wt w c G H) (np : H p = none) : G p = none := fresh_back W.e np
end
theorem Wt.set {w : Addr} {c d : Nat} {G H : Hp} {g m : Int} {k : Nat} (W : Wt w c G H) (hk : k ≤ d) : Wt w d G (upd H w (.lst [.int g, .int m, .int k])) := ⟨Ex.mut W.e W.n, W.n, g, m, k, hk, upd_same⟩
/-- promises of what draws: some data behind, of which R is true, the well used c times at most -/
def RetW (K : PySem.W.Frag) (w : Addr) (c : Nat) (G : Hp) (R : PyData → Prop) (Q : VK) : Prop := ∀ v d G' H', Ex G G' → Wt w c G' H' → Dp K G' v d → R d → Q v H'
/-- three ints, or not -/
def notW : List PyData → Bool
  | [.int _, .int _, .int _] => false
  | _ => true
section
variable {K : PySem.W.Frag} {H : Hp} {w : Addr} {g m k : Int}
theorem sqT_hide {a : Addr} {xs : List V} (hw : H w = some (.lst [.int g, .int m, .int k])) (h : SqT K H a xs) : SqT K (hide w H) a xs := by
  rcases h with (h | ⟨o, h⟩) | h
  · exact .inl (.inl (by rw [hide_ne (ne_of h hw fun z => nomatch z)]; exact h))
  · exact .inl (.inr ⟨o, by rw [hide_ne (ne_of h hw fun z => nomatch z)]; exact h⟩)
  · exact .inr h
mutual
theorem dp_hide (hw : H w = some (.lst [.int g, .int m, .int k])) : ∀ {v : V} {d : PyData}, noList d = true → Dp K H v d → Dp K (hide w H) v d
  | _, _, _, .non => .non
  | _, _, _, .bl b => .bl b
  | _, _, _, .int i => .int i
  | _, _, _, .str x => .str x
  | _, _, n, .lst h ha => nomatch (show false = true from n)
  | _, _, n, .tup h ha => .tup (sqT_hide hw h) (dpa_hide hw n ha)
theorem dpa_hide (hw : H w = some (.lst [.int g, .int m, .int k])) : ∀ {vs : List V} {ds : List PyData}, noLists ds = true → DpAll K H vs ds → DpAll K (hide w H) vs ds
  | _, _, _, .nil => .nil
  | _, _, n, .cons h t => .cons (dp_hide hw (Bool.and_eq_true_iff.mp n).1 h) (dpa_hide hw (Bool.and_eq_true_iff.mp n).2 t)
end
theorem dpa_3 {xs : List V} {ds : List PyData} (h : DpAll K H xs ds) (n : notW ds = true) : xs ≠ [.int g, .int m, .int k] := by
  rintro rfl
  cases h with
  | cons h1 t => cases h1; cases t with
    | cons h2 t => cases h2; cases t with
      | cons h3 t => cases h3; cases t; exact nomatch n
theorem sqL_hide {a : Addr} {xs : List V} (hw : H w = some (.lst [.int g, .int m, .int k])) (hn : xs ≠ [.int g, .int m, .int k]) (h : SqL K H a xs) : SqL K (hide w H) a xs := by
  rcases h with (h | ⟨o, h⟩) | h
  · exact .inl (.inl (by rw [hide_ne (ne_of h hw fun z => hn (HO.lst.inj z))]; exact h))
  · exact .inl (.inr ⟨o, by rw [hide_ne (ne_of h hw fun z => nomatch z)]; exact h⟩)
  · exact .inr h
/-- data that has lists on top only -/
def topList : PyData → Bool
  | .list ds => noLists ds && notW ds
  | d => noList d
theorem dp_hideT {v : V} {d : PyData} (hw : H w = some (.lst [.int g, .int m, .int k])) (n : topList d = true) (h : Dp K H v d) : Dp K (hide w H) v d := by
  cases h with
  | lst h ha =>
    obtain ⟨n1, n2⟩ := Bool.and_eq_true_iff.mp n
    exact .lst (sqL_hide hw (dpa_3 ha n2) h) (dpa_hide hw n1 ha)
  | tup h ha => exact .tup (sqT_hide hw h) (dpa_hide hw n ha)
  | non => exact .non
  | bl b => exact .bl b
  | int i => exact .int i
  | str x => exact .str x
end
theorem noStrs : ∀ (ws : List Str), noLists (ws.map PyData.str) = true
  | [] => rfl
  | x :: ws => noStrs ws
theorem notW_strs : ∀ (ws : List Str), notW (ws.map PyData.str) = true
  | [] => rfl
  | [_] => rfl
  | [_, _] => rfl
  | [_, _, _] => rfl
  | _ :: _ :: _ :: _ :: _ => rfl
theorem topL (ws : List Str) : topList (strsL ws) = true := by
  show (noLists (ws.map PyData.str) && notW (ws.map PyData.str)) = true
  rw [noStrs, notW_strs]
  rfl
theorem topT (ws : List Str) : topList (strsT ws) = true := noStrs ws
/-- a call that leaves the well alone, its data kept -/
theorem Wt.ret {K : PySem.W.Frag} {w : Addr} {c : Nat} {G H H' : Hp} {v : V} {d : PyData} (W : Wt w c G H) (e : Ex H H') (h : Dp K H' v d) (n : topList d = true) : ∃ G', Ex G G' ∧ Wt w c G' H' ∧ Dp K G' v d := by
  obtain ⟨G', e1, W1, rfl⟩ := W.ex e
  obtain ⟨g, m, k, _, hw⟩ := W1.h
  exact ⟨_, e1, W1, dp_hideT hw n h⟩
/-- a new thing of such a call -/
theorem Wt.newt {w a : Addr} {c : Nat} {G H H' : Hp} {o : HO} (W : Wt w c G H) (e : Ex H H') (na : H a = none) (h : H' a = some o) : ∃ G', Ex G G' ∧ Wt w c G' H' ∧ G' a = some o ∧ G a = none := by
  obtain ⟨G', e1, W1, rfl⟩ := W.ex e
  obtain ⟨g, m, k, _, hw⟩ := W.h
  exact ⟨_, e1, W1, by rw [hide_ne (ne_of_none hw na).symm]; exact h, W.free na⟩
/-! ### enumerate -/
theorem src_enum {K : PySem.W.Frag} {Hb : Hp} {a : Addr} {xs : List V} (h : SqL K Hb a xs) : Src (Ite K a) Hb xs.length (fun i x H => ∃ T y, x = .ref T ∧ H T = some (.tup [.int i, y]) ∧ xs[i]? = some y) :=
  ⟨fun i H2 e hi => ⟨xs, xs[i], ex_l e h, List.getElem?_eq_getElem hi⟩, fun i H2 e hi => ⟨xs, ex_l e h, hi⟩, fun i H2 x H3 e _ y => by
    obtain ⟨T, z, rfl, np, rfl, q⟩ := y
    exact ⟨Ex.new np, T, z, rfl, upd_same, q xs (ex_l e h)⟩⟩
theorem fo_enum {K : PySem.W.Frag} {Hb H : Hp} {a : Addr} {xs : List V} {g : TG} {tb : TS} {Dn : Ends} {σ : L2.St} (h : SqL K Hb a xs) (Pv : Nat → L2.St → Hp → Prop) (h0 : Pv 0 σ H) (hE : ∀ i σ H, Pv i σ H → Ex Hb H)
    (hs : ∀ i y T σ H H2, xs[i]? = some y → Pv i σ H → Ex H H2 → H2 T = some (.tup [.int i, y]) → g (.ref T) σ H2 fun σ2 H3 => tb { Dn with nx := Pv (i + 1), ct := Pv (i + 1), bk := Dn.nx } σ2 H3) (hd : ∀ σ H, Pv xs.length σ H → Dn.nx σ H) :
    SqL K H a xs ∧ FoGo (Ite K a) g tb Dn σ H :=
  ⟨ex_l (hE _ _ _ h0) h, for_src (src_enum h) Pv h0 hE (fun i x σ H H2 _ p e ⟨T, y, ex, hT, hy⟩ => by
    subst ex
    exact hs i y T σ H H2 hy p e hT) hd⟩
/-! ### comprehensions that draw -/
theorem lc_w {K : PySem.W.Frag} {J : It} {G0 H1 : Hp} {n : Nat} {item : Nat → V → Hp → Prop} {w : Addr} {g : TG} {tt : TT} {te : TE} {vs : List Nat} {σ : L2.St} {D : Addr} {Qd : Hp → Prop} (S : Src J G0 n item) (hn : n ≤ 1000000) (c : Nat → Nat) (R : Nat → List PyData → Prop)
    (W0 : Wt w (c 0) G0 H1) (np : H1 D = none) (r0 : R 0 [])
    (hs : ∀ (i : Nat) (x : V) (G2 H2 : Hp) (ds : List PyData) (Y : VK) (Z : Hp → Prop), i < n → Ex G0 G2 → Wt w (c i) G2 H2 → item i x H2 → R i ds →
      (∀ y d G3 H3, Ex G2 G3 → Wt w (c (i + 1)) G3 H3 → Dp K G3 y d → noList d = true → R (i + 1) (ds ++ [d]) → Y y H3) → (∀ G3 H3, Ex G2 G3 → Wt w (c (i + 1)) G3 H3 → R (i + 1) ds → Z H3) →
      g x (wipe σ vs) H2 fun σ2 H3 => wipe σ2 vs = wipe σ vs ∧ tt σ2 H3 fun b H4 => if b = true then te σ2 H4 Y else Z H4)
    (hl : ∀ i ds, R i ds → ds.length ≤ i)
    (hd : ∀ G' H' acc ds, Ex G0 G' → Wt w (c n) G' H' → G' D = some (.lst acc) → DpAll K G' acc ds → noLists ds = true → R n ds → Qd H') :
    LcGo J H1 g tt te vs σ D Qd := by
  have big : 1000000 < sizeLine := by decide
  have gD : G0 D = none := W0.free np
  let Pv : Nat → Hp → Prop := fun i H => ∃ G acc ds, Ex G0 G ∧ Wt w (c i) G H ∧ G D = some (.lst acc) ∧ DpAll K G acc ds ∧ noLists ds = true ∧ R i ds
  refine ⟨fun i m H => m = n - i ∧ i ≤ n ∧ Pv i H, ⟨n, by simp, Nat.zero_le _, upd G0 D (.lst []), [], [], Ex.new gD, W0.new np, upd_same, .nil, rfl, r0⟩, ?_⟩
  rintro i m H ⟨rfl, hi, G, acc, ds, e, W, hD, ha, nls, r⟩
  have eH : Ex G0 H := e.trans W.e
  by_cases hlt : i < n
  · refine .inr ⟨S.go i H eH hlt, Pv (i + 1), fun H' p' => ⟨n - (i + 1), by omega, rfl, hlt, p'⟩, fun x H' y => ?_⟩
    obtain ⟨e2, it⟩ := S.yld i H x H' eH hlt y
    obtain ⟨G2, e3, W2, _⟩ := W.ex e2
    refine hs i x G2 H' ds _ _ hlt (e.trans e3) W2 it r (fun z d G6 H6 e6 W6 hz nd hr => ?_) (fun G5 H5 e5 W5 hr => ?_)
    · have h6 : G6 D = some (.lst acc) := e6 _ _ (e3 _ _ hD)
      have m6 : Mu D G6 (upd G6 D (.lst (acc ++ [z]))) := fun q hq => upd_ne hq
      refine ⟨acc, W6.e _ _ h6, ?_, upd G6 D (.lst (acc ++ [z])), acc ++ [z], ds ++ [d], Ex.mut (e.trans (e3.trans e6)) gD, W6.mut h6, upd_same, ?_, ?_, hr⟩
      · have l1 := dpa_len ha
        have l2 := hl _ _ r
        omega
      · exact dpa_app (dpa_mu m6 h6 nls (dpa_ex (e3.trans e6) ha)) (dpa_one (dp_mu m6 h6 nd hz))
      · exact noLists_app nls (by show (noList d && true) = true; rw [nd]; rfl)
    · exact ⟨G5, acc, ds, e.trans (e3.trans e5), W5, e5 _ _ (e3 _ _ hD), dpa_ex (e3.trans e5) ha, nls, hr⟩
  · obtain rfl : i = n := by omega
    exact .inl ⟨S.stop i H eH (Nat.le_refl _), hd G H acc ds e W hD ha nls r⟩
/-! ### texts of drawn letters -/
theorem join_tx : ∀ (ls : List (List Nat)), Txt.join ("" : Str) (ls.map tx) = tx ls.flatten := by
  intro ls
  rw [TL.join_eq]
  induction ls with
  | nil => rfl
  | cons x ls ih =>
    cases ls with
    | nil =>
      show tx x = tx (x ++ [])
      rw [List.append_nil]
    | cons y r =>
      show tx x ++ ("" : Str) ++ Str.join ("" : Str) ((y :: r).map tx) = _
      rw [ih]
      apply sg_inj
      rw [sg_app, sg_app]
      show x ++ [] ++ (y :: r).flatten = _
      rw [List.append_nil]
      rfl
def one1 (c : Nat) : Str := tx [c]
theorem join_ones1 (l : List Nat) : Txt.join ("" : Str) (l.map one1) = tx l := by
  have e : l.map one1 = (l.map fun c => [c]).map tx := by rw [List.map_map]; rfl
  rw [e, join_tx]
  congr 1
  induction l with
  | nil => rfl
  | cons x l ih =>
    rw [List.map_cons, List.flatten_cons, ih (by rw [List.map_map]; rfl)]
    rfl
theorem lens_ones1 (l : List Nat) : ((l.map one1).map (·.length)).sum = l.length := by
  induction l with
  | nil => rfl
  | cons x l ih =>
    rw [List.map_cons, List.map_cons, List.sum_cons, ih, List.length_cons]
    show 1 + _ = _
    omega
/-- [one_of(well, z) for .. in range(m)] -/
theorem lc_letters {K : PySem.W.Frag} {w : Addr} {c m : Nat} {G H : Hp} {z : Str} {g : TG} {te : TE} {vs : List Nat} {σ : L2.St} {D : Addr} {Qd : Hp → Prop} (W : Wt w c G H) (hm : m ≤ 1000) (hc : c ≤ 100000) (np : H D = none)
    (hs : ∀ (i : Nat) (x : V) (c' : Nat) (G2 H2 : Hp) (Y : VK), Ex G G2 → c' ≤ 1000000 → Wt w c' G2 H2 → (∀ c0 H', c0 ∈ sg z → Wt w (c' + 1) G2 H' → Y (.str (tx [c0])) H') → g x (wipe σ vs) H2 fun σ2 H3 => wipe σ2 vs = wipe σ vs ∧ tYes σ2 H3 fun b H4 => if b = true then te σ2 H4 Y else True)
    (hd : ∀ G' H' (l : List Nat), Ex G G' → Wt w (c + m) G' H' → l.length = m → (∀ a ∈ l, a ∈ sg z) → G' D = some (.lst ((l.map one1).map V.str)) → Qd H') : LcGo (Itr 0 m) H g tYes te vs σ D Qd := by
  refine lc_w (K := K) (G0 := G) src_rng (by omega) (fun i => c + i) (fun i ds => ∃ l : List Nat, ds = (l.map one1).map PyData.str ∧ l.length = i ∧ ∀ a ∈ l, a ∈ sg z) W np ⟨[], rfl, rfl, fun _ h => (List.not_mem_nil h).elim⟩ (fun i x G2 H2 ds Y Z hi e W2 it r hy hn => ?_) (fun i ds ⟨l, hl, hl2, _⟩ => by rw [hl, List.length_map, List.length_map]; omega) (fun G' H' acc ds e W' hD ha nls ⟨l, hl, hl2, hl3⟩ => ?_)
  · obtain ⟨l, rfl, hl2, hl3⟩ := r
    have z := hs i x (c + i) G2 H2 Y e (by omega) W2 fun c0 H' hc0 W3 => hy _ (.str (tx [c0])) G2 H' (Ex.refl _) W3 (.str _) rfl ⟨l ++ [c0], by rw [List.map_append, List.map_append]; rfl, by rw [List.length_append, hl2]; rfl, fun a ha => (List.mem_append.mp ha).elim (hl3 a) fun h => by rw [List.mem_singleton.mp h]; exact hc0⟩
    exact z
  · subst hl
    have hs := strs_dpa ha
    subst hs
    exact hd G' H' l e W' hl2 hl3 hD
end My

/-! an own exception class whose __init__ says super().__init__(text) and keeps its argument in a field -/
namespace My
open PySem PySem.Spec PyProof.Rows L2 Evl
/-- the __init__ of the class at D -/
structure SupF (P : Program) (K : PySem.W.Frag) (D fI : Addr) (params : Arguments) (body : List Stmt) (scope : Scope) (fd : FuncData) : Prop where
  fn : ∃ (oc : Value) (od : Option Addr) (osl : Array (Option Value)) (dV kV doc pm : Value) (an : Option Addr) (cda cc : Addr) (ct : Value) (name qual : Str), fd = PySem.W.ksFn name qual params body scope dV kV doc pm an (.ref cda) ct cc ∧ K.lookup fI = some ⟨oc, od, .func fd, osl⟩ ∧ PySem.W.codeIn K (.ref cda) qual = true ∧
    (∃ (ccl : Value) (cdd : Option Addr) (vs : Array Value) (ccs : Array (Option Value)) (file : Str) (tf : Tok), K.lookup cda = some ⟨ccl, cdd, .fields vs, ccs⟩ ∧ vs[2]? = some (.str file tf) ∧ ((P.main.file : Str) == file) = true) ∧
    ∃ (cl : Value) (cld : Option Addr) (csl : Array (Option Value)), K.lookup cc = some ⟨cl, cld, .cell (some (.ref D)), csl⟩
  clsD : ∃ cdD, PySem.W.clsIn K D = some cdD
  sup : PySem.W.nsIn K mainGlobals "super" = some none
  any : PySem.W.nsIn K cStatics "thirdparty.any" = some none
  top : (P.main.scope.names.lookup ("super" : Str)).isSome = false
  kp : PySem.W.keepIn K (.ref fI) = true
/-- a class over it, without __init__ of its own -/
structure ExF (K : PySem.W.Frag) (D C fI : Addr) (fld : Str) : Prop where
  ox : OexC K C
  mro : PySem.W.mroIn K C (.ref D) = some true
  sp : PySem.W.ks_superIn K C D "__init__" = some (some (.builtin "ValueError.__init__"))
  ve : PySem.W.subIn K (.ref C) (.type "ValueError") = some true
  ini : PySem.W.findIn K (.ref C) "__init__" = some (some (.ref fI))
  fty : PySem.W.typeIn K (.ref fI) = some (.type "function")
  fld : PySem.W.findIn K (.ref C) fld = some none
def sp_init (K : PySem.W.Frag) (D fI : Addr) (fld : Str) : Sp := fun vs H Q _ => ∃ (a C : Addr) (y : V), vs = [.ref a, y] ∧ ExF K D C fI fld ∧ H a = some (exo a C none) ∧ ∀ dx, H dx = none → dx ≠ a → Q .non (upd (upd H dx (exd dx [(fld, y)])) a (exo a C (some dx)))
theorem call_mw {P : Program} {w : World} {A : Around} {E : Value → Shared → Prop} {s : Shared} {K : PySem.W.Frag} {u x C t : Addr} {rest : List Value} {Q : Value → Shared → Prop} (kin : K.In s.heap) (ox : OexC K C)
    (hu : s.heap.get? u = some (PySem.W.kxs_mw "ValueError.__init__" x)) (he : s.heap.get? x = some ({ cls := .ref C, dict := none, data := .fields #[.ref t, .none, .none, .none, .bool false, .none] } : Obj)) (hz : rest.length ≤ sizeLine)
    (fin : ∀ h', (∀ b o, b ≠ x → s.heap.get? b = some o → h'.get? b = some o) → (∃ t', h'.get? x = some ({ cls := .ref C, dict := none, data := .fields #[.ref t', .none, .none, .none, .bool false, .none] } : Obj)) → Q .none { s with heap := h' }) :
    wpAny (model P w) A (call (.ref u) rest) Q E s := by
  obtain ⟨nm, q, N, bs, bm, sn, sub, ab, col, dd, k0, k1, k2, k3, k5, hC, hbm⟩ := ox.cls
  obtain ⟨hp, g, dr, tk, os⟩ := s
  have tst : (Value.type "method-wrapper" == Value.type "method" || Value.type "method-wrapper" == Value.type "builtin_function_or_method" || Value.type "method-wrapper" == Value.type "method-wrapper") = true := by decide
  refine wpAny_call (codeAny_of_tree (show wpAny _ A.in1 (callAny (.ref u) ⟨rest, []⟩) _ _ _ from ?_))
  simp only [callAny]
  refine wpAny_bind (wpAny_load hu ?_)
  simp only [PySem.W.kxs_mw, tst, if_true]
  refine PySem.W.KFB.if_so (by decide) (wpAny_bind (PySem.W.check_bound_init PySem.F.excBase_ValueError.toExcCallFacts (kin _ _ hC) he rfl ?_))
  refine wpAny_bind (wpAny_pure (wpAny_pure ⟨PySem.plainId_quiet PySem.F.excBase_ValueError.init.plain _, codeAny_builtin PySem.F.excBase_ValueError.initEntry ?_⟩))
  exact PySem.W.exc_init_tree (cls := .ref C) (t0 := t) (dv := none) (c2 := .none) (c3 := .none) (b4 := .bool false) he hz fun h' kk e' t' => fin h' kk ⟨_, e'⟩
section
variable {P : Program} {w : World} {K : PySem.W.Frag} {mg : Str → Option Value} {base : Heap} {CX : CXT} {D fI : Addr} {params : Arguments} {scope : Scope} {fd : FuncData} {fld lit : Str} {p0 p1 p2 p3 p4 p5 p6 p7 p8 p9 : Pos} {kk : Nat} {ar : Arg} {more : List Arg}
theorem sup_fn {k : Nat} (S : SupF P K D fI params [.Expr (.Call (.Attribute (.Call (.Name "super" p0) [] [] p1) "__init__" p2) [.Constant (.str lit) kk p3] [] p4) p5, .Assign [.Attribute (.Name "self" p6) fld p7] (.Name "value" p8) p9] scope fd)
    (hp : (params.posonlyargs ++ params.args).head? = some ar) (har : ar.arg = "self") (h1 : scope.names.lookup ("self" : Str) = some .local) (h2 : scope.names.lookup ("value" : Str) = some .local) (h3 : scope.names.lookup ("super" : Str) = some .globalImplicit) (h4 : scope.names.lookup ("__class__" : Str) = some .free)
    {pl : Sem Bool} (hcall : ∀ env : Env, env.scope = scope → eval (.Call (.Attribute (.Call (.Name "super" p0) [] [] p1) "__init__" p2) [.Constant (.str lit) kk p3] [] p4) env = (do
      let ov ← attributeBase (.Call (.Name "super" p0) [] [] p1) "__init__" env (eval (.Call (.Name "super" p0) [] [] p1) env)
      standAt p2.atName
      let (g, first) ← holding [ov] (getMethod ov "__init__" pl)
      callWith p4 g first (backTo p4 (starEach [.Constant (.str lit) kk p3] env)) []))
    (hint : ∀ env : Env, env.scope = scope → interactive env = false) (hsw : ∀ env : Env, env.scope = scope → swapsWith (.Call (.Attribute (.Call (.Name "super" p0) [] [] p1) "__init__" p2) [.Constant (.str lit) kk p3] [] p4) none p5.line env = pure false)
    (hsw2 : ∀ env : Env, env.scope = scope → swapsWith (.Name "value" p8) (some (.Attribute (.Name "self" p6) fld p7)) p9.line env = pure false)
    (hcell : ∀ x ∈ scope.names, x.2 ≠ .cell) (hco : scope.isCoroutine = false) (hgen : scope.isGenerator = false) (hk : scope.kind = .function) :
    FnOk P w K mg base CX (k + 1) fI fd ["self", "value"] (sp_init K D fI fld) := by
  refine ⟨fun vs H Q E h => ?_, fun A outer st H args us vs Q E room e0 bind vals sat => ?_⟩
  · obtain ⟨a, C, y, rfl, _⟩ := h
    rfl
  obtain ⟨a, C, y, rfl, F, ha, q⟩ := sat
  obtain ⟨u1, u, rfl, r1, ry⟩ := vals2 vals
  obtain rfl : u1 = Value.ref a := r1
  obtain ⟨oc, od, osl, dV, kV, doc, pm, an, cda, cc, ct, name, qual, rfl, lk, hcd, ⟨ccl, cdd, vc, ccs, file, tf, lcd, hvc, hfile⟩, cl, cld, csl, lcc⟩ := S.fn
  obtain ⟨cdD, hD⟩ := S.clsD
  have kin : K.In st.heap := e0.mod.kin.keeps fun b o e => (e0.bs b o e).1
  have nolim : st.heap.NoLimit := e0.mod.nolimit.keeps fun b o e => (e0.bs b o e).1
  obtain ⟨mb, hmb, hbb⟩ := e0.mod.blt
  obtain ⟨t1, hx0⟩ := exo_at e0.hok ha
  refine ks_codeAny_call_defAt (binds := [("self", .ref a), ("value", u)]) (by have := room.dp; omega) (kin _ _ lk) rfl nolim (PySem.W.codeRec_of kin hcd) rfl bind hcell ?_ (fun h₀ hns hk0 => ?_) hco hgen hk
  · intro x hx
    rcases List.mem_cons.mp hx with rfl | hx
    · exact h1
    · rw [List.mem_singleton.mp hx]
      exact h2
  · have kin0 : K.In h₀ := fun b o e => hk0 b o (kin b o e)
    have nodbg : ∀ z : Str, z ≠ "__name__" → mb z = bootBuiltins z := hbb
    have glob0 : h₀.Ns mainGlobals mg := e0.mod.glob.keeps fun b o e => hk0 b o (e0.bs b o e).1
    have blt0 : h₀.Ns builtinsNs mb := hmb.keeps fun b o e => hk0 b o (e0.bs b o e).1
    have mgs : mg "super" = none := PySem.W.mg_none_of e0.mod.kin e0.mod.glob S.sup
    obtain ⟨oD, hoD, hdD⟩ : ∃ oD, K.lookup D = some oD ∧ oD.data = .cls cdD := by
      unfold PySem.W.clsIn at hD
      split at hD
      · rename_i c0 d0 cd0 sl0 hoo
        cases hD
        exact ⟨_, hoo, rfl⟩
      · cases hD
    have hx1 := hk0 _ _ hx0
    refine ks_wpAt_execs_cons (ks_wpAt_Expr_any (ks_wpAt_MethodCall (ks_wpAt_super_base h3 h4 (by decide) rfl (kin0 _ _ lk) rfl hp rfl (kin0 _ _ lcd) rfl hvc hfile S.top ?_) (hcall _ rfl)) (hint _ rfl) (hsw _ rfl))
    refine PySem.W.ks_loadName_global hk h3 (PySem.Calls.loadGlobal_builtin glob0 mgs blt0 ((hbb _ (by decide)).trans (by decide +kernel)) ⟨rfl, ?_⟩)
    refine wpAny_loadName_free hk h4 rfl ⟨_, kin0 _ _ lcc, rfl⟩ ?_
    rw [har]
    refine wpAny_loadName_local hk h1 hns rfl ?_
    refine ks_wpAny_isType_cls (kin0 _ _ hoD) hdD ⟨rfl, ?_⟩
    refine ks_wpAny_call_super (kin0 _ _ hoD) hdD hx1 rfl (fun c z => nomatch z) (PySem.W.looks_mroIn kin0 F.mro) (fun h1' e1 k1 => ?_)
    have kin1 : K.In h1' := fun b o e => k1 b o (kin0 b o e)
    have hx2 := k1 _ _ hx1
    have inst : PySem.W.InstAt h1' a _ C none := ⟨hx2, rfl, rfl, trivial⟩
    obtain ⟨cd, hcC, hal⟩ : ∃ cd, PySem.W.clsIn K C = some cd ∧ PySem.W.alongIn K "__init__" ((cd.mro.dropWhile (· != .ref D)).drop 1) = some (some (.builtin "ValueError.__init__")) := by
      have z := F.sp
      unfold PySem.W.ks_superIn at z
      cases hc : PySem.W.clsIn K C with
      | none => rw [hc] at z; cases z
      | some cd => rw [hc] at z; exact ⟨cd, rfl, z⟩
    refine PySem.W.kxs_getMethod PySem.W.kxs_ValueError e1 (PySem.W.looks_opaque kin1 S.any) (l₀ := cd.mro) ((PySem.W.looks_clsIn kin1 hcC).andThen .now) rfl kin1 hal (inst.type.andThen (PySem.W.looks_subIn kin1 F.ve)) (PySem.W.ks_ne kin1 inst hcC) (by decide) ?_
    have k2 : ∀ b o, h1'.get? b = some o → (h1'.push (PySem.W.kxs_mw "ValueError.__init__" a)).get? b = some o := fun b o e => Heap.get?_push_of_some _ e
    have hu2 : (h1'.push (PySem.W.kxs_mw "ValueError.__init__" a)).get? h1'.objs.size = some (PySem.W.kxs_mw "ValueError.__init__" a) := Heap.get?_push_size _ rfl
    have hx3 := k2 _ _ hx2
    have kin2 : K.In (h1'.push (PySem.W.kxs_mw "ValueError.__init__" a)) := fun b o e => k2 b o (kin1 b o e)
    have hns2 := hns.keeps fun b o e => k2 b o (k1 b o e)
    have kAll : ∀ b o, st.heap.get? b = some o → (h1'.push (PySem.W.kxs_mw "ValueError.__init__" a)).get? b = some o := fun b o e => k2 b o (k1 b o (hk0 b o e))
    refine PySem.W.kxs_callWith (i := "ValueError.__init__") (x := a) (by rfl) (PySem.Calls.evalArgs_plain (PySem.Calls.spliced_cons (wpAny_Constant_str (k := kk) (pos := p3) (PySem.Calls.spliced_nil ⟨hu2, ?_⟩))))
    generalize h1'.push (PySem.W.kxs_mw "ValueError.__init__" a) = h2' at *
    refine call_mw kin2 F.ox hu2 hx3 (by show 1 ≤ sizeLine; decide) (fun h3 k3 hx4 => ?_)
    obtain ⟨t4, hx4⟩ := hx4
    have aL : st.heap.objs.size ≠ a := (Nat.ne_of_lt (Heap.lt_size hx0)).symm
    obtain ⟨nm, qn, N, bs, bm, sn, sub, ab, col, dd, g0, g1, g2, g3, g5, hC, hbm⟩ := F.ox.cls
    have hcl : PySem.W.clsIn K C = some { name := nm, bases := bs, mro := .ref C :: bm, ns := N, qualname := qn, hasDict := true, slotNames := sn, subclasses := sub, abstract := ab, collection := col, hasDel := false } := by unfold PySem.W.clsIn; rw [hC] <;> rfl
    have aK : ∀ b o, K.lookup b = some o → b ≠ a := fun b o e z => by
      have z1 := kin b o e
      rw [z, hx0] at z1
      have z2 := e0.mod.kin b o e
      have z3 := (e0.bs b o z2).2
      rw [z, ha] at z3
      cases z3
    have kin3 : K.In h3 := fun b o e => k3 b o (aK b o e) (kin2 b o e)
    obtain ⟨oL, esL, epL, hoL, rL⟩ := hns2
    have hns3 : h3.Ns st.heap.objs.size _ := ⟨oL, esL, epL, k3 _ _ aL hoL, rL⟩
    refine ks_wpAt_execs_cons (ks_wpAt_Assign_Attr (wpAt_of_wpAny (wpAny_Name (wpAny_loadName_local hk h2 hns3 rfl (wpAny_Name (wpAny_loadName_local hk h1 hns3 rfl ?_) (by decide))) (by decide))) (hsw2 _ rfl))
    refine PySem.W.set_plain kin3 (od := none) ⟨hx4, rfl, rfl, trivial⟩ F.ox.sa ?_
    refine PySem.HandSPX.exc_osa kin3 hx4 hcl (show PySem.HandSPX.refsVE (.ref C :: bm) = true from hbm) rfl F.fld (fun h5 tk5 dx k5 dn dne hx5 hn5 => ?_)
    refine wpAt_of_wpAny (wpAny_execs_nil ?_)
    have kEnd : ∀ b o, b ≠ a → st.heap.get? b = some o → h5.get? b = some o := fun b o hb e => k5 b o hb (k3 b o hb (kAll b o e))
    have dx0 : st.heap.get? dx = none := by
      cases z : st.heap.get? dx with
      | none => rfl
      | some o => exact absurd (Heap.lt_size (k3 dx o dne (kAll dx o z))) (Nat.not_lt.mpr dn)
    have Hdx : H dx = none := e0.hok.gone dx0
    have offA : ∀ {b : Addr}, H b = none → b ≠ a := fun {b} n z => by
      rw [z, ha] at n
      cases n
    have offD : ∀ {b : Addr} {o : Obj}, st.heap.get? b = some o → b ≠ dx := fun {b o} e z => by
      rw [z, dx0] at e
      cases e
    have fin : ∀ s' : Shared, s'.heap = h5 → s'.gens = st.gens → s'.os = st.os → CE outer P w H st Q .none s' := fun s' es eg eo => ?_
    · exact fin _ rfl rfl rfl
    refine ⟨V.non, upd (upd H dx (exd dx [(fld, y)])) a (exo a C (some dx)), eo, by rw [eg]; exact e0.bare, ?_, ?_, rfl, q dx Hdx dne⟩
    · rw [es]
      exact ⟨fun b o e n _ _ => kEnd b o (offA n) e, fun b o e n _ _ => ⟨o.slots, kEnd b o (offA n) e⟩, fun b o e n _ => by rw [upd_ne (offA n), upd_ne (offD e)]; exact n,
      fun b o e _ => (Decidable.em (b = a)).elim (fun z => z ▸ ⟨_, hx5⟩) fun z => ⟨o, kEnd b o z e⟩, fun b xs e => by rw [upd_ne (L2.at_ne ha e exo_tup), upd_ne (ne_of_none e Hdx)]; exact e, fun b o v e => by rw [upd_ne (L2.at_ne ha e exo_frz), upd_ne (ne_of_none e Hdx)]; exact e,
      fun b ps e => ⟨#[], by rw [upd_ne (L2.at_ne ha e exo_tbl), upd_ne (ne_of_none e Hdx), e]; simp⟩⟩
    rw [es]
    intro b o e
    by_cases hb : b = a
    · subst hb
      rw [upd_same] at e
      cases e
      exact exo_ok hx5
    · rw [upd_ne hb] at e
      by_cases hd : b = dx
      · subst hd
        rw [upd_same] at e
        cases e
        exact exd_ok hn5 (relO_put (fs := []) ry fun g => True.intro)
      · rw [upd_ne hd] at e
        have offO : ∀ {c : Addr}, H c = some (.own b) → c ≠ a := fun {c} hc => L2.at_ne ha hc exo_own
        exact (e0.hok b o e).stay (fun c v hc z => kEnd c v (hc.elim (fun z2 => by rw [z2]; exact hb) offO) z) (fun c hc => by rw [upd_ne (offO hc), upd_ne (ne_of_none hc Hdx)]; exact hc) (fun c xs hc => by rw [upd_ne (L2.at_ne ha hc exo_tup), upd_ne (ne_of_none hc Hdx)]; exact hc)
end
end My

/-! an exception that is caught, kept as a value, its field read behind the suite -/
namespace My
open PySem PySem.Spec PyProof.Rows L2 Evl
/-- at a: a caught exception of the class cls, its dict at d -/
def exK (a : Addr) (cls : Value) (d : Option Addr) : HO := .ext fun h => ∃ (oe : Obj) (vs : Array Value), h.get? a = some oe ∧ Zc cls d oe ∧ oe.data = .fields vs
theorem exK_ok {P : Program} {w : World} {H : Hp} {h : Heap} {a : Addr} {cls : Value} {d : Option Addr} {oe : Obj} {vs : Array Value} (e : h.get? a = some oe) (z : Zc cls d oe) (f : oe.data = .fields vs) : ObjOk P w H h a (exK a cls d) :=
  ⟨⟨oe, vs, e, z, f⟩, ⟨oe, e⟩, fun g1 g2 ⟨o, us, e1, z1, f1⟩ k => ⟨o, us, k _ e1, z1, f1⟩⟩
theorem exK_at {P : Program} {w : World} {H : Hp} {h : Heap} {a : Addr} {cls : Value} {d : Option Addr} (hok : HOk P w H h) (e : H a = some (exK a cls d)) : ∃ (oe : Obj) (vs : Array Value), h.get? a = some oe ∧ Zc cls d oe ∧ oe.data = .fields vs := by
  have z : ObjOk P w H h a (.ext fun h => ∃ (oe : Obj) (vs : Array Value), h.get? a = some oe ∧ Zc cls d oe ∧ oe.data = .fields vs) := hok a _ e
  exact z.1
section
variable {X : Cx} {pins : List (Addr × Obj)} {σ : L2.St} {H : Hp} {s : Shared}
/-- it is tracked from here on -/
theorem inv_keep {a : Addr} {oe : Obj} {vs : Array Value} {cls : Value} {d : Option Addr} (I : Inv X ((a, oe) :: pins) σ H s) (z : Zc cls d oe) (f : oe.data = .fields vs) (new : X.s_0.heap.get? a = none) (apart : ∀ p ∈ X.pn ++ pins, p.1 ≠ a) :
    Inv X pins σ (upd H a (exK a cls d)) s := by
  obtain ⟨at1, na, nL, nF, _⟩ := I.pin (a, oe) (List.mem_append_right _ (List.mem_cons_self ..))
  have off : ∀ {b : Addr} {o : HO}, H b = some o → b ≠ a := fun e => ne_of_none e na
  refine ⟨I.ok, I.os, I.bare, ⟨I.base.keep, I.base.slot, fun b o e n hx => ?_, I.base.there, fun b xs e => ?_, fun b o v e => ?_, fun b ps e => ?_⟩, I.loc, I.cell, ?_, fun x c e => ?_, fun p hp => ?_, fun b o e => ?_, I.len⟩
  · rw [upd_ne fun q => by rw [q, new] at e; cases e]
    exact I.base.free b o e n hx
  · have q := I.base.tups b xs e
    rw [upd_ne (off q)]
    exact q
  · have q := I.base.frzs b o v e
    rw [upd_ne (off q)]
    exact q
  · obtain ⟨more, q⟩ := I.base.tbls b ps e
    exact ⟨more, by rw [upd_ne (off q)]; exact q⟩
  · rw [upd_ne nL.symm]
    exact I.free
  · have hc := I.freeC x c e
    have ca : c ≠ a := fun q => by
      obtain ⟨v, o, e1, e2⟩ := I.cell x c e
      rw [q, at1] at e1
      cases e1
      rw [f] at e2
      cases e2
    rw [upd_ne ca]
    exact hc
  · have hp2 : p ∈ X.pn ++ (a, oe) :: pins := (List.mem_append.mp hp).elim (fun q => List.mem_append_left _ q) fun q => List.mem_append_right _ (List.mem_cons_of_mem _ q)
    obtain ⟨h1, h2, h3⟩ := I.pin p hp2
    exact ⟨h1, by rw [upd_ne (apart p hp)]; exact h2, h3⟩
  · by_cases q : b = a
    · subst q
      rw [upd_same] at e
      cases e
      exact exK_ok at1 z f
    · rw [upd_ne q] at e
      exact (I.hok b o e).stay (fun c v _ y => y) (fun c y => by rw [upd_ne (off y)]; exact y) fun c xs y => by rw [upd_ne (off y)]; exact y
end
/-- what 'except x as n: suite' wishes of an exception of the body, the exception kept -/
def wKp (K : PySem.W.Frag) (c : Value) (i : Nat) (ts : Addr → Value → Option Addr → TS) (Wout : WX) (D : Ends) : WX := fun cls d σ H =>
  ∃ b, PySem.W.exmOne K cls c = some b ∧ (b = false → Wout cls d σ H) ∧ (b = true → ∀ a, H a = none → ts a cls d { nx := fun σ1 H1 => D.nx (σ1.set i none) (upd H1 a (exK a cls d)), rt := fun v H1 => D.rt v (upd H1 a (exK a cls d)), bk := fun σ1 H1 => D.bk (σ1.set i none) (upd H1 a (exK a cls d)), ct := fun σ1 H1 => D.ct (σ1.set i none) (upd H1 a (exK a cls d)) } (σ.set i (some (.ref a))) H)
section
variable {X : Cx} {x n : Str} {c : Value} {i : Nat} {body suite : List Stmt} {b0 : Stmt} {np pos pos2 : Pos} {tb : WX → TS} {ts : Addr → Value → Option Addr → TS} {Wout : WX}
theorem ps_try_keep (stk : X.stack = X.env :: X.outer) (frm : X.env.frame = some X.env.locals) (nd : X.N.Nodup) (hi : X.N[i]? = some n) (loc : X.env.kindOf n = some .local) (nex : X.ex = []) (hc : Names X x c) (tk : Takes X Wout)
    (hb : ∀ (W : WX) (pn : List (Addr × Obj)) (xe : Value → Shared → Prop), Takes (X.tr pn xe) W → PassesOwn (model X.prog X.w) X.A X.env xe → PSs (X.tr pn xe) body (tb W))
    (su : ∀ (a : Addr) (oe : Obj) (cls : Value) (d : Option Addr) (pn : List (Addr × Obj)), Zc cls d oe → (∃ vs, oe.data = .fields vs) → PSs (X.suite a ((a, oe) :: pn)) (b0 :: suite) (ts a cls d)) :
    PS X (.Try body [.ExceptHandler (some (.Name x np)) (some n) (b0 :: suite) pos2] [] [] pos) (fun D σ H => tb (wKp X.K c i ts Wout D) D σ H) := by
  constructor
  intro pins s σ H D I sat
  have okX := I.ok
  have frames : X.A.frames = some (X.env :: X.outer) := by rw [okX.frames, stk]
  have run := (hb (wKp X.K c i ts Wout D) (X.pn ++ pins) (fun e s1 => wpAny (model X.prog X.w) X.A (noteFrame e X.env) (fun _ s2 => wpAny (model X.prog X.w) X.A (setFlight e none) (fun _ s3 => wpAny (model X.prog X.w) X.A (handleBy e X.env [.ExceptHandler (some (.Name x np)) (some n) (b0 :: suite) pos2]) (SP X pins D) X.xe s3) X.xe s2) X.xe s1) (fun u s' air => ?_) PassesOwn.looking).run [] s σ H D (I.toTry _) sat
  · refine wpAny_Try_except (wpAny_mono run (fun f s1 got => ?_) fun _ _ z => z)
    cases f with
    | next =>
      obtain ⟨σ1, H1, J1, q1⟩ := got
      exact wpAny_execs_nil ⟨σ1, H1, J1.ofTry okX, q1⟩
    | ret u =>
      obtain ⟨v, σ1, H1, J1, rv, q1⟩ := got
      exact ⟨v, σ1, H1, J1.ofTry okX, rv, q1⟩
    | brk =>
      obtain ⟨σ1, H1, J1, q1⟩ := got
      exact ⟨σ1, H1, J1.ofTry okX, q1⟩
    | cont =>
      obtain ⟨σ1, H1, J1, q1⟩ := got
      exact ⟨σ1, H1, J1.ofTry okX, q1⟩
  obtain ⟨a, B, sI, pins1, σ1, H1, cls, d, rfl, JI, below, upTo, sky, na, eos, bare, b, hexm, hout, hin⟩ := air
  have J0 : Inv X pins σ1 H1 sI := JI.ofTry okX
  have sky2 : Sky B (X.env :: X.outer) a (Zc cls d) X.env.locals s'.heap := by rw [← stk]; exact sky
  show wpAny (model X.prog X.w) X.A (noteFrame (.ref a) X.env) _ _ _
  refine Sky.land Zc.steady frames frm sky2 fun g3 fly3 up3 => ?_
  have J3 : Inv X pins σ1 H1 ⟨g3, s'.gens, s'.drawn, s'.toks, s'.os⟩ := J0.landed below fly3.1 (upTo.trans up3) eos bare
  obtain ⟨o3, v3, at3, z3, f3⟩ := fly3.there
  have noFr : a ∉ frs (X.env :: X.outer) := fun hm => by
    obtain ⟨_, o', e', hnf⟩ := fly3.2.2.1.mem hm
    rw [at3] at e'
    cases e'
    exact hnf _ f3
  have notL : a ≠ X.env.locals := fun z => noFr (List.mem_filterMap.mpr ⟨X.env, List.mem_cons_self, by rw [frm, z]⟩)
  have notF : a ∉ X.fs := fun hm => by
    obtain ⟨e, he, q⟩ := List.mem_filterMap.mp hm
    exact noFr (List.mem_filterMap.mpr ⟨e, List.mem_cons_of_mem _ he, q⟩)
  have noB : B.get? a = none := fly3.2.1
  have noI : sI.heap.get? a = none := by
    cases z : sI.heap.get? a with
    | none => rfl
    | some o =>
      have y := below a o z (by rw [stk]; exact noFr)
      rw [noB] at y
      cases y
  have no0 : X.s_0.heap.get? a = none := by
    cases z : X.s_0.heap.get? a with
    | none => rfl
    | some o =>
      obtain ⟨o', y⟩ := J0.base.there a o z (by rw [nex]; exact List.not_mem_nil)
      rw [noI] at y
      cases y
  have apart : ∀ p ∈ X.pn ++ pins, p.1 ≠ a := fun p hp z => by
    have y := (J0.pin p hp).1
    rw [z, noI] at y
    cases y
  have S3 := J3.suite at3 f3 na notL notF
  refine wpAny_handleBy_cons (codeAny_handlers_test ?_) (fun q => by cases q)
  have clsOf : PySem.W.Looks (model X.prog X.w) g3 (typeOf (.ref a)) cls := fun A Q E s k q => wpAny_typeOf_ref (k _ _ at3) (by rw [z3.1]; exact q)
  have match1 := PySem.W.exm_one (M := model X.prog X.w) (J3.kIn) clsOf hexm
  have named : ∀ {Q : Value → Shared → Prop} {E : Value → Shared → Prop}, Q c ⟨g3, s'.gens, s'.drawn, s'.toks, s'.os⟩ → wpAny (model X.prog X.w) (X.A.mark (some (.ref a))) (eval (.Name x np) X.env) Q E ⟨g3, s'.gens, s'.drawn, s'.toks, s'.os⟩ := fun {Q E} q => by
    obtain ⟨hg, hdb, hm | ⟨hm, hv, hn⟩⟩ := hc
    · exact ld_glob (X := X.suite a ((a, o3) :: (X.pn ++ pins))) S3 hg hm q hdb
    · exact ld_blt (X := X.suite a ((a, o3) :: (X.pn ++ pins))) S3 hg hm hv q hn hdb
  refine named (match1.here ?_)
  cases b with
  | false =>
    show wpAny _ X.A (handleBy (.ref a) X.env []) _ _ _
    refine wpAny_handleBy_nil ?_
    obtain ⟨_, _, _, oe, vs, T, oT, _, he, _, hd, hT, _⟩ := id fly3
    unfold PySem.passOn
    refine wpAny_bind (wpAny_field he hd hT ?_)
    rw [if_neg (show ¬ ((Value.ref T == Value.none) = true) from by simp)]
    have onward : wpAny (model X.prog X.w) X.A (setFlight (.ref a) X.env.frame) (fun _ s4 => wpAny (model X.prog X.w) X.A (throw (.ref a) : Sem Flow) (SP X pins D) X.xe s4) X.xe ⟨g3, s'.gens, s'.drawn, s'.toks, s'.os⟩ := by
      rw [frm]
      exact HandSPX.setFlight_upZ fly3 fun g4 held4 up4 => wpAny_throw (tk _ _ ⟨a, B, sI, pins, σ1, H1, cls, d, rfl, J0, below, (upTo.trans up3).trans up4, .inr (.inr (by rw [stk]; exact held4)), na, eos, bare, hout rfl⟩)
    first
      | exact wpAny_bind onward
      | exact wpAny_bind (wpAny_pure (wpAny_bind onward))
  | true =>
    refine codeAny_handlers_suite_as (HandSPX.lands_againZ fly3 fun g4 fly4 up4 => ?_)
    have J4 : Inv X pins σ1 H1 ⟨g4, s'.gens, s'.drawn, s'.toks, s'.os⟩ := J0.landed below fly4.1 ((upTo.trans up3).trans up4) eos bare
    obtain ⟨o4, v4, at4, z4, f4⟩ := fly4.there
    have S4 := J4.suite at4 f4 na notL notF
    refine store_ok (X := X.suite a ((a, o4) :: (X.pn ++ pins))) (v := .ref a) S4 nd hi (.inl loc) rfl (fun s5 S5 => ?_) (.inr loc)
    have stop : ∀ {σ6 : L2.St} {H6 : Hp} {s6 : Shared} {Q : Shared → Prop}, Inv (X.suite a ((a, o4) :: (X.pn ++ pins))) [] σ6 H6 s6 → (∀ s7, Inv X pins (σ6.set i none) (upd H6 a (exK a cls d)) s7 → Q s7) → wpAny (model X.prog X.w) X.A (do bindName X.env n .none; unbindBehindTheSuite X.env n pos2) (fun _ s7 => Q s7) X.xe s6 := fun {σ6 H6 s6 Q} S6 hq => by
      have here := S6.pin (a, o4) (List.mem_append_left _ (List.mem_cons_self ..))
      have J6 : Inv X ((a, o4) :: pins) σ6 H6 s6 := (S6.unsuite okX).pins_of fun p hp => (List.mem_cons.mp hp).elim (fun e => by rw [e]; exact here) fun h => (S6.unsuite okX).pin p (List.mem_append_right _ h)
      exact gone_ok J6 nd hi loc fun s7 J7 => hq s7 (inv_keep J7 z4 f4 no0 apart)
    refine wpAny_mono ((su a o4 cls d (X.pn ++ pins) z4 ⟨_, f4⟩).run [] s5 _ H1 _ S5 (hin rfl a na)) (fun f s6 got => ?_) (fun _ _ z => z.elim)
    cases f with
    | next =>
      obtain ⟨σ6, H6, S6, q6⟩ := got
      exact stop S6 fun s7 J7 => ⟨_, _, J7, q6⟩
    | ret u =>
      obtain ⟨v6, σ6, H6, S6, r6, q6⟩ := got
      exact stop S6 fun s7 J7 => ⟨_, _, _, J7, r6, q6⟩
    | brk =>
      obtain ⟨σ6, H6, S6, q6⟩ := got
      exact stop S6 fun s7 J7 => ⟨_, _, J7, q6⟩
    | cont =>
      obtain ⟨σ6, H6, S6, q6⟩ := got
      exact stop S6 fun s7 J7 => ⟨_, _, J7, q6⟩
end
/-- an exception that nothing wishes -/
theorem takesF {X : Cx} : Takes X (fun _ _ _ _ => False) := fun u s1 air => by
  obtain ⟨_, _, _, _, _, _, _, _, _, _, _, _, _, _, _, _, bad⟩ := air
  exact bad.elim
section
variable {X : Cx} {CX : CXT} {k : Nat} {x : Str} {ps : List Str} {sp : Sp} {E : L2.St → XK} {p pos : Pos} {e : Expr} {es : List Expr} {t : TA}
theorem run_gS {f : Addr} {fd : FuncData} {pins : List (Addr × Obj)} {σ : L2.St} {H : Hp} {st : Shared} {Q : VK} {us : List Value} {vs : List V} (F : FnG X.prog X.w X.K X.mg X.base CX k f fd ps sp) (hg : X.A.guards = some []) (hr : Room k X.A) (hb : Binds X.K fd ps [])
    (hx : PassesAt CX X σ (E σ)) (I : Inv X pins σ H st) (r : Vals vs us) (h : sp vs H Q (E σ)) : wpAny (model X.prog X.w) X.A (call (.ref f) us) (EP X pins σ Q) X.xe st := by
  have hn : (us ++ []).length = ps.length := by rw [List.append_nil, ← r.length]; exact F.len _ _ _ _ h
  have hbt : BindsTo st fd ⟨us, []⟩ (ps.zip us) := by
    have z := hb st us I.kIn hn
    rw [List.append_nil] at z
    exact z
  refine wpAny_call (codeAny_mono (F.run X.A X.stack st H ⟨us, []⟩ us vs Q (E σ) hg hr I.env0 hbt r h) fun res s2 hq => ?_)
  cases res with
  | error err => exact hx pins H st err s2 I hq
  | ok fl =>
    cases fl with
    | ret u => exact I.after hq
    | next => exact hq.elim
    | brk => exact hq.elim
    | cont => exact hq.elim
/-- f(e, ..) whose exceptions are taken as the slots stand -/
def tClS (sp : Sp) (E : L2.St → XK) (t : TA) : TE := fun σ H Q => t σ H fun vs H1 => sp vs H1 Q (E σ)
theorem pe_callXS (G : Ok X.prog X.w X.K X.mg X.base CX k x ps sp) (hgd : X.A.guards = some []) (hr : Room k X.A) (hx : ∀ σ, PassesAt CX X σ (E σ)) (ha : PA X (e :: es) t) (hg : Gl X x := by rfl)
    (hdb : (x == ("__debug__" : Str)) = false := by decide) (he : starEach (e :: es) X.env = (false, eval e X.env) :: starEach es X.env := by rfl) (hpl : (backTo pos (starEach es X.env)).any (·.1) = false := by rfl) :
    PE X (.Call (.Name x p) (e :: es) [] pos) (tClS sp E t) := by
  obtain ⟨f, fd, F, hb, hm, hk, _⟩ := G
  refine ⟨fun pins st σ H Q I h => ?_⟩
  refine wpAny_Call_Name_kw (ld_glob I hg hm ?_ hdb)
  refine PySem.W.callWith_K (h₀ := X.base) I.ok.mod.kin hk (thn (ha.run pos pins st σ H _ I h) fun us s2 ⟨vs, H2, I2, rv, q⟩ => ⟨I2.kIn, run_gS F hgd hr hb (hx σ) I2 rv q⟩) he hpl
end
/-- e.f of such an exception -/
def tKf (K : PySem.W.Frag) (f : Str) (te : TE) : TE := fun σ H Q => te σ H fun x H1 => ∃ (a C dd : Addr) (fs : List (Str × V)) (v : V), x = .ref a ∧ H1 a = some (exK a (.ref C) (some dd)) ∧ H1 dd = some (.xd fs) ∧ fs.lookup f = some v ∧ XfC K C ∧ PySem.W.findIn K (.ref C) f = some none ∧ Q v H1
theorem pe_kf {X : Cx} {e : Expr} {te : TE} {pos : Pos} {f : Str} (he : PE X e te) (hb : attributeBase e f X.env (eval e X.env) = eval e X.env := by rfl) : PE X (.Attribute e f pos) (tKf X.K f te) := by
  constructor
  intro pins s σ H Q I sat
  refine attr_of hb (thn (he.run pins s σ H _ I sat) fun u s1 got => ?_)
  obtain ⟨x, H1, I1, rx, a, C, dd, fs, v, rfl, ka, kd, hl, T, hno, q⟩ := got
  obtain rfl : u = Value.ref a := rx
  obtain ⟨oe, vs, at1, z1, f1⟩ := exK_at I1.hok ka
  have dict : ObjOk X.prog X.w H1 s1.heap dd (.xd fs) := I1.hok dd _ kd
  obtain ⟨mA, hns, hr⟩ := dict
  obtain ⟨od, ho, look⟩ := lookIn_ns hns
  obtain ⟨u, hu, ru⟩ := RelO.some_of (v := v) (o := mA f) (by rw [← hl]; exact hr f)
  have inst : PySem.W.InstAt s1.heap a oe C (some od) := ⟨at1, z1.1, by unfold PySem.W.notCls; rw [f1] <;> rfl, by rw [z1.2]; exact ho⟩
  exact HandSPX.exc_get I1.kIn inst T.ga T.gg T.exC (PySem.W.findObj_own T.hdC hno rfl (by rw [look, hu])) (handed_of ru) ⟨v, H1, I1.tok _, ru, q⟩
end My

/-! the written part's facts of own exceptions, observed behind the top -/
namespace My
open PySem PySem.Spec PyProof.Rows L2 Evl
theorem band {a b : Bool} (h : (a && b) = true) : a = true ∧ b = true := Bool.and_eq_true_iff.mp h
/-! ### the class -/
def oexB (K : PySem.W.Frag) (C : Addr) : Bool := match K.lookup C with
  | some ⟨.type t, _, .cls cd, sl⟩ => (match cd.mro, sl.toList with
    | .ref C' :: bm, [_, _, _, _, some (.builtin n), _] => decide (t = "type") && (decide (C' = C) && (decide (n = "ValueError.__new__") && (cd.hasDict && ((!cd.hasDel) && PySem.HandSPX.refsVE bm))))
    | _, _ => false)
  | _ => false
theorem oexB_ok {K : PySem.W.Frag} {C : Addr} (h : oexB K C = true) : ∃ nm q N bs bm sn sub ab col dd k0 k1 k2 k3 k5, K.lookup C = some (excClassObj nm q C N bs bm true sn sub ab col dd k0 k1 k2 k3 k5 "ValueError.__new__") ∧ PySem.HandSPX.refsVE bm = true := by
  unfold oexB at h
  split at h
  · rename_i t dd cd sl ho
    split at h
    · rename_i C' bm k0 k1 k2 k3 n k5 hm hs
      obtain ⟨e1, h1⟩ := band h
      obtain ⟨e2, h2⟩ := band h1
      obtain ⟨e3, h3⟩ := band h2
      obtain ⟨e4, h4⟩ := band h3
      obtain ⟨e5, h5⟩ := band h4
      obtain rfl := of_decide_eq_true e1
      obtain rfl := of_decide_eq_true e2
      obtain rfl := of_decide_eq_true e3
      obtain ⟨nm, bs, mro, ns, qn, hd, sn, sub, ab, col, del⟩ := cd
      dsimp only at hm e4 e5
      rw [Bool.not_eq_true'] at e5
      subst hm e4 e5
      have hsl : sl = #[k0, k1, k2, k3, some (.builtin "ValueError.__new__"), k5] := by
        obtain ⟨l⟩ := sl
        simp only at hs
        rw [hs]
      subst hsl
      exact ⟨nm, qn, ns, bs, bm, sn, sub, ab, col, dd, k0, k1, k2, k3, k5, ho, h5⟩
    · cases h
  · cases h
def exfB (K : PySem.W.Frag) (D C fI : Addr) (fld : Str) : Bool :=
  oexB K C && (He.eqO (PySem.W.findIn K (.ref C) "__setattr__") (some (some (.builtin "object.__setattr__"))) && (decide (PySem.W.subIn K (.ref C) (.type "BaseException") = some true) && (decide (PySem.W.typeIn K (.ref C) = some (.type "type")) && (PySem.W.keepIn K (.ref C) &&
  (decide (PySem.W.mroIn K C (.ref D) = some true) && (He.eqO (PySem.W.ks_superIn K C D "__init__") (some (some (.builtin "ValueError.__init__"))) && (decide (PySem.W.subIn K (.ref C) (.type "ValueError") = some true) && (He.eqO (PySem.W.findIn K (.ref C) "__init__") (some (some (.ref fI))) &&
  (decide (PySem.W.typeIn K (.ref fI) = some (.type "function")) && (He.eqO (PySem.W.findIn K (.ref C) fld) (some none) && xfB K C))))))))))
theorem exfB_ok {K : PySem.W.Frag} {D C fI : Addr} {fld : Str} (h : exfB K D C fI fld = true) : ExF K D C fI fld ∧ XfC K C := by
  obtain ⟨c1, h⟩ := band h
  obtain ⟨c2, h⟩ := band h
  obtain ⟨c3, h⟩ := band h
  obtain ⟨c4, h⟩ := band h
  obtain ⟨c5, h⟩ := band h
  obtain ⟨c6, h⟩ := band h
  obtain ⟨c7, h⟩ := band h
  obtain ⟨c8, h⟩ := band h
  obtain ⟨c9, h⟩ := band h
  obtain ⟨c10, h⟩ := band h
  obtain ⟨c11, c12⟩ := band h
  exact ⟨⟨⟨oexB_ok c1, He.eqO_ok c2, of_decide_eq_true c3, of_decide_eq_true c4, c5⟩, of_decide_eq_true c6, He.eqO_ok c7, of_decide_eq_true c8, He.eqO_ok c9, of_decide_eq_true c10, He.eqO_ok c11⟩, xfB_ok c12⟩
/-- what the program is to say -/
def FileIs (P : Program) (file : Str) : Prop := P.main.file = file ∧ (P.main.scope.names.lookup ("super" : Str)).isSome = false
/-! ### its __init__ -/
/-- the base class, its __init__, the classes over it -/
structure XSp where
  d : Str
  nm : Str
  qual : Str
  params : Arguments
  body : List Stmt
  scope : Scope
  file : Str
  cls : List Str
  fld : Str
abbrev FnX : Type := Option (Str × Str × Arguments × FuncBody × Scope × Addr × Addr)
def xD (K : PySem.W.Frag) (x : XSp) : Addr := He.ga K x.d
def xI (K : PySem.W.Frag) (x : XSp) : Addr := He.ma K (xD K x) "__init__"
def fnXo (K : PySem.W.Frag) (x : XSp) : FnX := match K.lookup (xI K x) with
  | some ⟨_, _, .func fd, _⟩ => some (fd.name, fd.qualname, fd.params, fd.body, fd.scope, fd.globals, fd.builtins)
  | _ => none
def XSp.val (x : XSp) : FnX := some (x.nm, x.qual, x.params, .stmts x.body, x.scope, mainGlobals, builtinsNs)
def fileB (K : PySem.W.Frag) (c : Value) (file : Str) : Bool := match c with
  | .ref cda => (match K.lookup cda with
    | some ⟨_, _, .fields vs, _⟩ => (match (vs[2]? : Option Value) with
      | some (.str f _) => decide (f = file)
      | _ => false)
    | _ => false)
  | _ => false
theorem fileB_ok {K : PySem.W.Frag} {c : Value} {file : Str} (h : fileB K c file = true) : ∃ cda ccl cdd vs ccs tf, c = .ref cda ∧ K.lookup cda = some ⟨ccl, cdd, .fields vs, ccs⟩ ∧ vs[2]? = some (.str file tf) := by
  unfold fileB at h
  split at h
  · split at h
    · rename_i e1
      split at h
      · rename_i e2
        obtain rfl := of_decide_eq_true h
        exact ⟨_, _, _, _, _, _, rfl, e1, e2⟩
      · cases h
    · cases h
  · cases h
def cellB (K : PySem.W.Frag) (cl : List (Str × Addr)) (D : Addr) : Bool := match cl with
  | [(n, cc)] => decide (n = "__class__") && (match K.lookup cc with
    | some ⟨_, _, .cell (some (.ref E)), _⟩ => decide (E = D)
    | _ => false)
  | _ => false
theorem cellB_ok {K : PySem.W.Frag} {cl : List (Str × Addr)} {D : Addr} (h : cellB K cl D = true) : ∃ cc c d sl, cl = [(("__class__" : Str), cc)] ∧ K.lookup cc = some ⟨c, d, .cell (some (.ref D)), sl⟩ := by
  unfold cellB at h
  split at h
  · obtain ⟨e1, h⟩ := band h
    obtain rfl := of_decide_eq_true e1
    split at h
    · rename_i e2
      obtain rfl := of_decide_eq_true h
      exact ⟨_, _, _, _, rfl, e2⟩
    · cases h
  · cases h
def noneB : Value → Bool
  | .none => true
  | _ => false
theorem noneB_ok {v : Value} (h : noneB v = true) : v = .none := by
  cases v <;> first | rfl | cases h
def iniB (K : PySem.W.Frag) (x : XSp) : Bool := (match K.lookup (xI K x) with
  | some ⟨_, _, .func fd, _⟩ => PySem.W.codeIn K fd.code x.qual && (fileB K fd.code x.file && (cellB K fd.closure (xD K x) && noneB fd.defaults))
  | _ => false) && ((PySem.W.clsIn K (xD K x)).isSome && (He.eqO (PySem.W.nsIn K mainGlobals "super") (some none) && (He.eqO (PySem.W.nsIn K cStatics "thirdparty.any") (some none) && PySem.W.keepIn K (.ref (xI K x)))))
def xsB (K : PySem.W.Frag) (x : XSp) : Bool := iniB K x && x.cls.all fun n => He.eqO (PySem.W.nsIn K mainGlobals n) (some (some (.ref (He.ga K n)))) && (exfB K (xD K x) (He.ga K n) (xI K x) x.fld && decide (PySem.W.exmOne K (.ref (He.ga K n)) (.ref (He.ga K n)) = some true))
/-- a class over the base, by its name -/
def ExAt (K : PySem.W.Frag) (mg : Str → Option Value) (x : XSp) (n : Str) : Prop := ∃ C, mg n = some (.ref C) ∧ ExF K (xD K x) C (xI K x) x.fld ∧ XfC K C ∧ PySem.W.exmOne K (.ref C) (.ref C) = some true
/-- the base's __init__ -/
def IniAt (K : PySem.W.Frag) (x : XSp) (ps : List Str) : Prop := ∀ {P : Program}, FileIs P x.file → ∃ fd, SupF P K (xD K x) (xI K x) x.params x.body x.scope fd ∧ Binds K fd ps []
theorem ini_ok {P : Program} {K : PySem.W.Frag} {x : XSp} (hP : FileIs P x.file) (e : fnXo K x = x.val) (c : iniB K x = true) : ∃ fd, SupF P K (xD K x) (xI K x) x.params x.body x.scope fd ∧
    ∃ (kV doc pm : Value) (an : Option Addr) (cda cc : Addr) (ct : Value), fd = PySem.W.ksFn x.nm x.qual x.params x.body x.scope .none kV doc pm an (.ref cda) ct cc := by
  obtain ⟨c1, c⟩ := band c
  obtain ⟨c2, c⟩ := band c
  obtain ⟨c3, c⟩ := band c
  obtain ⟨c4, c5⟩ := band c
  unfold fnXo at e
  cases q : K.lookup (xI K x) with
  | none =>
    rw [q] at c1
    cases c1
  | some o =>
    obtain ⟨oc, od, dt, osl⟩ := o
    rw [q] at c1 e
    cases dt with
    | func fd =>
      obtain ⟨n1, n2, n3, n4, n5, n6, n7, n8, n9, n10, n11, n12, n13, n14, n15⟩ := fd
      have e2 : (some (n1, n2, n3, n4, n5, n6, n15) : FnX) = some (x.nm, x.qual, x.params, .stmts x.body, x.scope, mainGlobals, builtinsNs) := e
      simp only [Option.some.injEq, Prod.mk.injEq] at e2
      obtain ⟨h1, h2, h3, h4, h5, h6, h8⟩ := e2
      subst h1 h2 h3 h4 h5 h6 h8
      have d0 : (PySem.W.codeIn K n13 x.qual && (fileB K n13 x.file && (cellB K n7 (xD K x) && noneB n8))) = true := c1
      obtain ⟨d1, d⟩ := band d0
      obtain ⟨d2, d⟩ := band d
      obtain ⟨d3, d4⟩ := band d
      obtain ⟨cda, ccl, cdd, vs, ccs, tf, rfl, l1, l2⟩ := fileB_ok d2
      obtain ⟨cc, cl, cld, csl, rfl, l3⟩ := cellB_ok d3
      obtain rfl := noneB_ok d4
      refine ⟨_, ⟨⟨oc, od, osl, _, n9, n10, n11, n12, cda, cc, n14, x.nm, x.qual, rfl, q, d1, ⟨ccl, cdd, vs, ccs, x.file, tf, l1, l2, ?_⟩, cl, cld, csl, l3⟩, Option.isSome_iff_exists.mp c2, He.eqO_ok c3, He.eqO_ok c4, hP.2, c5⟩, n9, n10, n11, n12, cda, cc, n14, rfl⟩
      rw [hP.1]
      exact BEq.rfl
    | _ => cases c1
/-! ### the Hook -/
abbrev AlX : Type := He.AlD × FnX × Bool
def obsX (fa : List He.Fa) (fn : List He.DefD) (x : XSp) (K : PySem.W.Frag) : AlX := (He.obsD fa fn K, fnXo K x, xsB K x)
def valX (fn : List He.DefD) (x : XSp) : AlX := (He.valD fn, x.val, true)
def SaysX (fa : List He.Fa) (fn : List He.DefD) (x : XSp) (K : PySem.W.Frag) : Prop := obsX fa fn x K = valX fn x
def obsXG (n : Nat) (fa : List He.Fa) (fn : List He.DefD) (x : XSp) (g : Addr → Option Obj) : AlX := obsX fa fn x (He.frG g (cStatics :: He.asD g n))
def hookX (n : Nat) (fa : List He.Fa) (fn : List He.DefD) (x : XSp) : PySem.W.Hook where
  α := AlX
  obs := fun s => obsXG n fa fn x s.heap.get?
  val := fun _ => valX fn x
  says := fun _ h => ∃ K : PySem.W.Frag, K.In h ∧ SaysX fa fn x K
  of := fun _ _ e => ⟨_, He.frG_in, e⟩
  keeps := fun _ _ _ ⟨K, hK, c⟩ k => ⟨K, PySem.W.Frag.In.keeps hK k, c⟩
theorem obsXG_eq {n : Nat} {fa : List He.Fa} {fn : List He.DefD} {x : XSp} {g : Addr → Option Obj} {s : Shared} (h : ∀ a, g a = s.heap.get? a) : obsXG n fa fn x g = (hookX n fa fn x).obs s := by
  have e : g = s.heap.get? := funext h
  rw [e] <;> rfl
section
variable {fa : List He.Fa} {fn : List He.DefD} {x : XSp} {K : PySem.W.Frag}
theorem SaysX.d (c : SaysX fa fn x K) : He.SaysD fa fn K := congrArg (fun z : AlX => z.1) c
theorem SaysX.cls {h : Heap} {mg : Str → Option Value} (c : SaysX fa fn x K) (X : K.In h) (G : h.Ns mainGlobals mg) (i : Nat) {n : Str} (hn : x.cls[i]? = some n := by rfl) : ExAt K mg x n := by
  have c1 : xsB K x = true := congrArg (fun z : AlX => z.2.2) c
  obtain ⟨_, c2⟩ := band c1
  obtain ⟨c3, c4⟩ := band (List.all_eq_true.mp c2 n (List.mem_of_getElem? hn))
  obtain ⟨c5, c6⟩ := band c4
  obtain ⟨e1, e2⟩ := exfB_ok c5
  exact ⟨_, PySem.W.mg_of X G (He.eqO_ok c3), e1, e2, of_decide_eq_true c6⟩
theorem SaysX.ini (c : SaysX fa fn x K) {ps : List Str} (h : ∀ (kV doc pm : Value) (an : Option Addr) (cda cc : Addr) (ct : Value) (us : List Value), us.length = ps.length → bindArgs (PySem.W.ksFn x.nm x.qual x.params x.body x.scope .none kV doc pm an (.ref cda) ct cc) ⟨us, []⟩ = pure (ps.zip us)) :
    IniAt K x ps := fun {P} hP => by
  have c1 : xsB K x = true := congrArg (fun z : AlX => z.2.2) c
  obtain ⟨fd, S, kV, doc, pm, an, cda, cc, ct, rfl⟩ := ini_ok hP (congrArg (fun z : AlX => z.2.1) c) (band c1).1
  exact ⟨_, S, .all (h kV doc pm an cda cc ct)⟩
end
end My

/-! the end: a law's promise, at what the top has left -/
namespace My
open PySem PySem.Spec PyProof.Rows L2
abbrev EndR (t : Shared) (r : Result) (t2 : Shared) : Prop := r = .ok (.ret (.bool true)) ∧ OldK t.heap t2.heap ∧ t2.os = t.os ∧ AllBare t2.gens
theorem end_core {P : Program} {w : World} {K : PySem.W.Frag} {mg mb : Str → Option Value} {k : Nat} {g a : Addr} {fd : FuncData} {x : Str} {sp : Sp} {t : Shared} {us : List Value} {ns : List Int} (kin : K.In t.heap)
    (glo : t.heap.Ns mainGlobals mg) (blt : t.heap.Ns builtinsNs mb) (mean : ∀ y : Str, y ≠ "__name__" → mb y = bootBuiltins y) (lim : t.heap.NoLimit) (gens : t.gens = #[])
    (lst : t.heap.get? a = some { cls := .type "list", data := .seq us.toArray }) (room : Room k callerA)
    (F : ∀ base : Heap, K.In base → base.Ns mainGlobals mg → FnG P w K mg base CX0 k g fd [x] sp)
    (bind : ∀ (t : Shared) (u : Value), BindsTo t fd ⟨[u], []⟩ [(x, u)]) {H : Hp} (only : Only H) (sat : sp [.ref a] H (fun v _ => v = .bl true) fun _ _ _ => False) (hok : HOk P w H t.heap)
    (one : ∀ b, H b ≠ none → b = a) (apart : H a ≠ none → K.lookup a = none) : codeAny (model P w) callerA (.call (.ref g) ⟨[.ref a], []⟩) (EndR t) t := by
  have gone : ∀ {b : Addr}, ¬ H b ≠ none → H b = none := fun {b} z => Decidable.not_not.mp z
  have dictFree : ∀ {b : Addr} {o : Obj} {es : Array DictEntry} {ep : Nat}, t.heap.get? b = some o → o.data = .dict es ep → H b = none := by
    intro b o es ep e d
    apply gone
    intro z
    have eb := one b z
    rw [eb, lst] at e
    cases e
    cases (d : Data.seq us.toArray _ = Data.dict es ep)
  have spaces : ∀ {b : Addr} {m : Str → Option Value}, t.heap.Ns b m → (hidT t.heap H).Ns b m := by
    rintro b m ⟨o, es, ep, e, d, r⟩
    exact ⟨o, es, ep, hidT_get e (dictFree e d), d, r⟩
  have kinB : K.In (hidT t.heap H) := by
    intro b o e
    refine hidT_get (kin b o e) (gone fun z => ?_)
    have eb := one b z
    rw [eb] at z e
    rw [apart z] at e
    cases e
  have mod : Mod K mg (hidT t.heap H) := by
    refine ⟨kinB, spaces glo, ⟨mb, spaces blt, mean⟩, ?_⟩
    obtain ⟨mc, n1, n2⟩ := lim
    exact ⟨mc, spaces n1, n2⟩
  have env : Env0 P w K mg (hidT t.heap H) callerA [] t H :=
    ⟨rfl, mod, fun b o e => of_hidT e, Nat.le_of_eq (hidT_size _ _), trivial, fun b hb => (List.not_mem_nil hb).elim, hok, .of_eq gens⟩
  have start := (F _ kinB (spaces glo)).run callerA [] t H ⟨[.ref a], []⟩ [.ref a] [.ref a] _ _ rfl room env (bind t (.ref a)) (.cons rfl .nil) sat
  refine codeAny_mono start fun r t2 got => ?_
  match r, got with
  | .error e, got => exact got.elim
  | .ok (.ret u), ⟨v, H2, os, bare, un, hok2, rv, ev⟩ =>
    have ev : v = .bl true := ev
    rw [ev] at rv
    have eu : u = Value.bool true := rv
    rw [eu]
    refine ⟨rfl, OldK.of_keep fun b o e => ?_, os, bare⟩
    rcases only b with z | ⟨ob, xs, z⟩
    · exact un.keep b o e z List.not_mem_nil List.not_mem_nil
    · obtain ⟨e1, _⟩ := hok b _ z
      obtain ⟨e2, _⟩ := hok2 b _ (un.frzs b ob _ z)
      rw [e1] at e
      rw [← e]
      exact e2
theorem end_call {P : Program} {w : World} {K : PySem.W.Frag} {mg mb : Str → Option Value} {k : Nat} {g a : Addr} {fd : FuncData} {x : Str} {sp : Sp} {t : Shared} {us : List Value} {ns : List Int} (kin : K.In t.heap)
    (glo : t.heap.Ns mainGlobals mg) (blt : t.heap.Ns builtinsNs mb) (mean : ∀ y : Str, y ≠ "__name__" → mb y = bootBuiltins y) (lim : t.heap.NoLimit) (gens : t.gens = #[])
    (lst : t.heap.get? a = some { cls := .type "list", data := .seq us.toArray }) (areInts : IntsAre us ns) (len : ns.length ≤ sizeLine) (room : Room k callerA)
    (F : ∀ base : Heap, K.In base → base.Ns mainGlobals mg → FnG P w K mg base CX0 k g fd [x] sp)
    (bind : ∀ (t : Shared) (u : Value), BindsTo t fd ⟨[u], []⟩ [(x, u)]) (sat : ∀ H : Hp, Only H → SqL K H a (ns.map V.int) → sp [.ref a] H (fun v _ => v = .bl true) fun _ _ _ => False) :
    codeAny (model P w) callerA (.call (.ref g) ⟨[.ref a], []⟩) (EndR t) t := by
  have rv := vals_ints areInts
  have lu := areInts.length
  cases hk : K.lookup a with
  | some o =>
    have e := kin a o hk
    rw [lst] at e
    obtain rfl := Option.some.inj e
    have only : Only fun _ => none := fun _ => .inl rfl
    refine end_core (H := fun _ => none) (ns := ns) kin glo blt mean lim gens lst room F bind only (sat _ only (.inr ⟨_, us.toArray, _, hk, rfl, rfl, rfl, ?_, by simpa using rv⟩)) (fun b u z => ?_) (fun b z => absurd rfl z) fun z => absurd rfl z
    · rw [List.size_toArray, lu]
      exact len
    · cases (z : (none : Option HO) = some u)
  | none =>
    have at1 : upd (fun _ => none) a (.frz { cls := .type "list", data := .seq us.toArray } (.lst (ns.map V.int))) a = some (.frz { cls := .type "list", data := .seq us.toArray } (.lst (ns.map V.int))) := upd_same
    have off : ∀ {b : Addr}, b ≠ a → upd (fun _ => none) a (.frz { cls := .type "list", data := .seq us.toArray } (.lst (ns.map V.int))) b = none := fun nb => upd_ne nb
    generalize upd (fun _ => none) a (.frz { cls := .type "list", data := .seq us.toArray } (.lst (ns.map V.int))) = H at at1 off
    have only : Only H := fun b => (Decidable.em (b = a)).elim (fun z => .inr ⟨_, _, z ▸ at1⟩) fun z => .inl (off z)
    refine end_core (H := H) (ns := ns) kin glo blt mean lim gens lst room F bind only (sat _ only (.inl (.inr ⟨_, at1⟩))) (fun b u z => ?_) (fun b z => Decidable.byContradiction fun q => z (off q)) fun _ => hk
    by_cases hb : b = a
    · rw [hb, at1] at z
      obtain rfl := Option.some.inj z
      rw [hb]
      exact ⟨lst, by rw [List.length_map]; exact len, us, _, rv, lst⟩
    · rw [off hb] at z
      cases z
theorem end_walk {l : PySem.W.OpenLaw} {n k : Nat} {q : Program} {loose : List Str} {XP : (Str → Option Value) → Heap → Prop} {YP : World → Heap → Prop} {d : DefRec} {x : Str} (most : l.most = some n) (fits : n ≤ sizeLine) (plain : d.params.defaults = []) (room : Room k callerA)
    (F : ∀ (w : World) (mg : Str → Option Value) (g : Addr) (h : Heap), YP w h → h.Ns mainGlobals mg → mg d.name = some (.ref g) → ∃ (K : PySem.W.Frag) (fd : FuncData) (sp : Sp), K.In h ∧ (∀ (t : Shared) (u : Value), BindsTo t fd ⟨[u], []⟩ [(x, u)]) ∧
      (∀ (H : Hp) (a : Addr) (ns : List Int), ns.length ≤ n → Only H → SqL K H a (ns.map V.int) → sp [.ref a] H (fun v _ => v = .bl true) fun _ _ _ => False) ∧ ∀ base : Heap, K.In base → base.Ns mainGlobals mg → FnG l.prog w K mg base CX0 k g fd [x] sp) :
    PySem.W.WalkO q loose XP YP l.row.toRowW d [] (fun f vs => PySem.call f vs) := by
  refine Att.attach_call most plain fun w s1 t mg mb g o pm cd doc a us ns G Y ho hd hcd hm lst areInts hlen gens => ?_
  obtain ⟨K, fd, sp, kin, bind, sat, run⟩ := F w mg g _ Y G.T.g hm
  exact end_call kin G.T.g G.T.b G.T.builtins G.T.nolimit gens lst areInts (Nat.le_trans hlen fits) room run bind fun H hO hS => sat H a ns hlen hO hS
/-- the law's def, over every base -/
theorem law_fn {P : Program} {w : World} {K : PySem.W.Frag} {mg : Str → Option Value} {x y : Str} {st : Stmt} {k : Nat} {sp : Sp} {g : Addr} (D : DefAt K mg x st [y]) (hm : mg x = some (.ref g)) (G : ∀ base : Heap, Ok P w K mg base CX0 k x [y] sp)
    (h : ∀ (kV doc pm : Value) (an : Option Addr) (cdv ct : Value) (us : List Value), us.length = [y].length → bindArgs (PySem.W.fnOf x x (defArgs st) (defBody st) (defScope st) .none kV doc pm an cdv ct) ⟨us, []⟩ = pure ([y].zip us)) :
    ∃ fd, (∀ (t : Shared) (u : Value), BindsTo t fd ⟨[u], []⟩ [(y, u)]) ∧ ∀ base : Heap, FnG P w K mg base CX0 k g fd [y] sp := by
  obtain ⟨f, fd, F, _, hf⟩ := D
  obtain rfl : g = f := by
    rw [hm] at hf
    cases hf
    rfl
  refine ⟨fd, fun t u => F.bindsA h t [u] rfl, fun base => ?_⟩
  obtain ⟨f2, fd2, F2, _, hf2, _, a2⟩ := G base
  obtain rfl : g = f2 := by
    rw [hm] at hf2
    cases hf2
    rfl
  rw [fdAt_eq (fdAt_of F) a2]
  exact F2
end My

namespace My
open PySem PySem.Spec PyProof.Rows L2 Evl
def topS (i : Nat) : Stmt := PySem.Challenge.pw_surepieces_k63_whole_what_may_go.main.body.getD i (.Pass ⟨0, 0, 0, 0⟩)
abbrev s_is_integer : Stmt := topS 9
abbrev n_is_integer : List Str := ["value"]
theorem sc_is_integer : FnScope n_is_integer ["value"] (defScope s_is_integer) := ⟨rfl, rfl, rfl, by decide +kernel, rfl, by decide +kernel, by decide +kernel⟩
abbrev s_anew : Stmt := topS 10
abbrev n_anew : List Str := ["value", "part"]
theorem sc_anew : FnScope n_anew ["value"] (defScope s_anew) := ⟨rfl, rfl, rfl, by decide +kernel, rfl, by decide +kernel, by decide +kernel⟩
abbrev s_are_ascending : Stmt := topS 11
abbrev n_are_ascending : List Str := ["values", "at"]
theorem sc_are_ascending : FnScope n_are_ascending ["values"] (defScope s_are_ascending) := ⟨rfl, rfl, rfl, by decide +kernel, rfl, by decide +kernel, by decide +kernel⟩
abbrev s_is_word : Stmt := topS 12
abbrev n_is_word : List Str := ["value", "sign"]
theorem sc_is_word : FnScope n_is_word ["value"] (defScope s_is_word) := ⟨rfl, rfl, rfl, by decide +kernel, rfl, by decide +kernel, by decide +kernel⟩
abbrev s_is_size : Stmt := topS 13
abbrev n_is_size : List Str := ["value"]
theorem sc_is_size : FnScope n_is_size ["value"] (defScope s_is_size) := ⟨rfl, rfl, rfl, by decide +kernel, rfl, by decide +kernel, by decide +kernel⟩
abbrev s_are_windows : Stmt := topS 14
abbrev n_are_windows : List Str := ["size", "value", "window"]
theorem sc_are_windows : FnScope n_are_windows ["size", "value"] (defScope s_are_windows) := ⟨rfl, rfl, rfl, by decide +kernel, rfl, by decide +kernel, by decide +kernel⟩
abbrev s_is_a_book : Stmt := topS 15
abbrev n_is_a_book : List Str := ["value"]
theorem sc_is_a_book : FnScope n_is_a_book ["value"] (defScope s_is_a_book) := ⟨rfl, rfl, rfl, by decide +kernel, rfl, by decide +kernel, by decide +kernel⟩
abbrev s_places_of : Stmt := topS 16
abbrev n_places_of : List Str := ["book", "found", "window"]
theorem sc_places_of : FnScope n_places_of ["book"] (defScope s_places_of) := ⟨rfl, rfl, rfl, by decide +kernel, rfl, by decide +kernel, by decide +kernel⟩
abbrev s_need_book : Stmt := topS 17
abbrev n_need_book : List Str := ["book"]
theorem sc_need_book : FnScope n_need_book ["book"] (defScope s_need_book) := ⟨rfl, rfl, rfl, by decide +kernel, rfl, by decide +kernel, by decide +kernel⟩
abbrev s_begin_of : Stmt := topS 19
abbrev n_begin_of : List Str := ["window"]
theorem sc_begin_of : FnScope n_begin_of ["window"] (defScope s_begin_of) := ⟨rfl, rfl, rfl, by decide +kernel, rfl, by decide +kernel, by decide +kernel⟩
abbrev s_end_of : Stmt := topS 20
abbrev n_end_of : List Str := ["window"]
theorem sc_end_of : FnScope n_end_of ["window"] (defScope s_end_of) := ⟨rfl, rfl, rfl, by decide +kernel, rfl, by decide +kernel, by decide +kernel⟩
abbrev s_windows_out : Stmt := topS 21
abbrev n_windows_out : List Str := ["book", "found", "window", "spot", "row"]
theorem sc_windows_out : FnScope n_windows_out ["book"] (defScope s_windows_out) := ⟨rfl, rfl, rfl, by decide +kernel, rfl, by decide +kernel, by decide +kernel⟩
abbrev s_places_from : Stmt := topS 23
abbrev n_places_from : List Str := ["book", "spot", "ways_out", "found", "waiting", "window"]
theorem sc_places_from : FnScope n_places_from ["book", "spot"] (defScope s_places_from) := ⟨rfl, rfl, rfl, by decide +kernel, rfl, by decide +kernel, by decide +kernel⟩
abbrev s_a_closed_lot : Stmt := topS 24
abbrev n_a_closed_lot : List Str := ["book", "every", "spot", "found"]
theorem sc_a_closed_lot : FnScope n_a_closed_lot ["book"] (defScope s_a_closed_lot) := ⟨rfl, rfl, rfl, by decide +kernel, rfl, by decide +kernel, by decide +kernel⟩
abbrev s_need_some_ring : Stmt := topS 26
abbrev n_need_some_ring : List Str := ["book"]
theorem sc_need_some_ring : FnScope n_need_some_ring ["book"] (defScope s_need_some_ring) := ⟨rfl, rfl, rfl, by decide +kernel, rfl, by decide +kernel, by decide +kernel⟩
abbrev s_book_without : Stmt := topS 27
abbrev n_book_without : List Str := ["book", "windows", "window"]
theorem sc_book_without : FnScope n_book_without ["book", "windows"] (defScope s_book_without) := ⟨rfl, rfl, rfl, by decide +kernel, rfl, by decide +kernel, by decide +kernel⟩
abbrev s_can_go : Stmt := topS 28
abbrev n_can_go : List Str := ["book", "windows", "left"]
theorem sc_can_go : FnScope n_can_go ["book", "windows"] (defScope s_can_go) := ⟨rfl, rfl, rfl, by decide +kernel, rfl, by decide +kernel, by decide +kernel⟩
abbrev s_needed : Stmt := topS 29
abbrev n_needed : List Str := ["book", "window"]
theorem sc_needed : FnScope n_needed ["book"] (defScope s_needed) := ⟨rfl, rfl, rfl, by decide +kernel, rfl, by decide +kernel, by decide +kernel⟩
abbrev s_may_go : Stmt := topS 30
abbrev n_may_go : List Str := ["book", "windows", "window"]
theorem sc_may_go : FnScope n_may_go ["book", "windows"] (defScope s_may_go) := ⟨rfl, rfl, rfl, by decide +kernel, rfl, by decide +kernel, by decide +kernel⟩
abbrev s_rest : Stmt := topS 31
abbrev n_rest : List Str := ["book", "found", "window"]
theorem sc_rest : FnScope n_rest ["book"] (defScope s_rest) := ⟨rfl, rfl, rfl, by decide +kernel, rfl, by decide +kernel, by decide +kernel⟩
abbrev s_law_well : Stmt := topS 33
abbrev n_law_well : List Str := ["script", "k", "total", "at", "cell", "great"]
theorem sc_law_well : FnScope n_law_well ["script", "k"] (defScope s_law_well) := ⟨rfl, rfl, rfl, by decide +kernel, rfl, by decide +kernel, by decide +kernel⟩
abbrev s_law_pick : Stmt := topS 34
abbrev n_law_pick : List Str := ["well", "ways", "found", "mixed"]
theorem sc_law_pick : FnScope n_law_pick ["well", "ways"] (defScope s_law_pick) := ⟨rfl, rfl, rfl, by decide +kernel, rfl, by decide +kernel, by decide +kernel⟩
abbrev s_law_one_of : Stmt := topS 35
abbrev n_law_one_of : List Str := ["well", "things"]
theorem sc_law_one_of : FnScope n_law_one_of ["well", "things"] (defScope s_law_one_of) := ⟨rfl, rfl, rfl, by decide +kernel, rfl, by decide +kernel, by decide +kernel⟩
abbrev s_law_round : Stmt := topS 36
abbrev n_law_round : List Str := ["size", "ring", "longer", "at"]
theorem sc_law_round : FnScope n_law_round ["size", "ring"] (defScope s_law_round) := ⟨rfl, rfl, rfl, by decide +kernel, rfl, by decide +kernel, by decide +kernel⟩
abbrev s_law_tally : Stmt := topS 37
abbrev n_law_tally : List Str := ["steps", "found", "step"]
theorem sc_law_tally : FnScope n_law_tally ["steps"] (defScope s_law_tally) := ⟨rfl, rfl, rfl, by decide +kernel, rfl, by decide +kernel, by decide +kernel⟩
abbrev s_law_ways_out : Stmt := topS 38
abbrev n_law_ways_out : List Str := ["windows", "found", "window", "spot", "row"]
theorem sc_law_ways_out : FnScope n_law_ways_out ["windows"] (defScope s_law_ways_out) := ⟨rfl, rfl, rfl, by decide +kernel, rfl, by decide +kernel, by decide +kernel⟩
abbrev s_law_come_to : Stmt := topS 39
abbrev n_law_come_to : List Str := ["ways", "start", "found", "left", "spot"]
theorem sc_law_come_to : FnScope n_law_come_to ["ways", "start"] (defScope s_law_come_to) := ⟨rfl, rfl, rfl, by decide +kernel, rfl, by decide +kernel, by decide +kernel⟩
abbrev s_law_hangs : Stmt := topS 40
abbrev n_law_hangs : List Str := ["windows", "ways", "back", "start", "window"]
theorem sc_law_hangs : FnScope n_law_hangs ["windows"] (defScope s_law_hangs) := ⟨rfl, rfl, rfl, by decide +kernel, rfl, by decide +kernel, by decide +kernel⟩
abbrev s_law_without : Stmt := topS 41
abbrev n_law_without : List Str := ["windows", "lot", "window"]
theorem sc_law_without : FnScope n_law_without ["windows", "lot"] (defScope s_law_without) := ⟨rfl, rfl, rfl, by decide +kernel, rfl, by decide +kernel, by decide +kernel⟩
abbrev s_law_wide_book : Stmt := topS 42
abbrev n_law_wide_book : List Str := ["well", "most", "size", "letters", "steps", "rings", "turn", "some", "ring", "windows", "known", "letter"]
theorem sc_law_wide_book : FnScope n_law_wide_book ["well", "most"] (defScope s_law_wide_book) := ⟨rfl, rfl, rfl, by decide +kernel, rfl, by decide +kernel, by decide +kernel⟩
abbrev s_law_all_lots : Stmt := topS 43
abbrev n_law_all_lots : List Str := ["windows", "found", "window", "lot"]
theorem sc_law_all_lots : FnScope n_law_all_lots ["windows"] (defScope s_law_all_lots) := ⟨rfl, rfl, rfl, by decide +kernel, rfl, by decide +kernel, by decide +kernel⟩
abbrev s_law_some_lots : Stmt := topS 44
abbrev n_law_some_lots : List Str := ["well", "book", "rings", "size", "windows", "found", "turn", "share", "kept", "lot", "window"]
theorem sc_law_some_lots : FnScope n_law_some_lots ["well", "book", "rings"] (defScope s_law_some_lots) := ⟨rfl, rfl, rfl, by decide +kernel, rfl, by decide +kernel, by decide +kernel⟩
abbrev s_law_lots_right : Stmt := topS 45
abbrev n_law_lots_right : List Str := ["book", "lots", "at", "lot", "told"]
theorem sc_law_lots_right : FnScope n_law_lots_right ["book", "lots"] (defScope s_law_lots_right) := ⟨rfl, rfl, rfl, by decide +kernel, rfl, by decide +kernel, by decide +kernel⟩
abbrev s_law_caught : Stmt := topS 46
abbrev n_law_caught : List Str := ["book", "asks_rest", "caught", "told", "e"]
theorem sc_law_caught : FnScope n_law_caught ["book", "asks_rest"] (defScope s_law_caught) := ⟨rfl, rfl, rfl, by decide +kernel, rfl, by decide +kernel, by decide +kernel⟩
abbrev s_law_needed_right : Stmt := topS 47
abbrev n_law_needed_right : List Str := ["book", "due", "found", "window"]
theorem sc_law_needed_right : FnScope n_law_needed_right ["book"] (defScope s_law_needed_right) := ⟨rfl, rfl, rfl, by decide +kernel, rfl, by decide +kernel, by decide +kernel⟩
abbrev s_law_rest_right : Stmt := topS 48
abbrev n_law_rest_right : List Str := ["book", "found", "left", "window"]
theorem sc_law_rest_right : FnScope n_law_rest_right ["book", "found"] (defScope s_law_rest_right) := ⟨rfl, rfl, rfl, by decide +kernel, rfl, by decide +kernel, by decide +kernel⟩
abbrev s_law_book_right : Stmt := topS 49
abbrev n_law_book_right : List Str := ["book", "lots", "asks_rest", "caught"]
theorem sc_law_book_right : FnScope n_law_book_right ["book", "lots"] (defScope s_law_book_right) := ⟨rfl, rfl, rfl, by decide +kernel, rfl, by decide +kernel, by decide +kernel⟩
abbrev s_law : Stmt := topS 50
abbrev n_law : List Str := ["script", "k", "well", "small", "rings", "wide"]
theorem sc_law : FnScope n_law ["script"] (defScope s_law) := ⟨rfl, rfl, rfl, by decide +kernel, rfl, by decide +kernel, by decide +kernel⟩
def s_ini : Stmt := match topS 1 with
  | .ClassDef _ _ _ b _ _ _ _ _ _ _ => b.getD 0 (.Pass ⟨0, 0, 0, 0⟩)
  | _ => .Pass ⟨0, 0, 0, 0⟩
def xs : XSp := ⟨"PieceError", "__init__", "PieceError.__init__", defArgs s_ini, defBody s_ini, defScope s_ini, "/claim/cut.py", ["NoRing"], "value"⟩
/-- what the top has left -/
structure Tx (K : PySem.W.Frag) (mg : Str → Option Value) : Prop where
  d_is_integer : DefAt K mg "is_integer" s_is_integer ["value"]
  d_anew : DefAt K mg "anew" s_anew ["value"]
  d_are_ascending : DefAt K mg "are_ascending" s_are_ascending ["values"]
  d_is_word : DefAt K mg "is_word" s_is_word ["value"]
  d_is_size : DefAt K mg "is_size" s_is_size ["value"]
  d_are_windows : DefAt K mg "are_windows" s_are_windows ["size", "value"]
  d_is_a_book : DefAt K mg "is_a_book" s_is_a_book ["value"]
  d_places_of : DefAt K mg "places_of" s_places_of ["book"]
  d_need_book : DefAt K mg "need_book" s_need_book ["book"]
  d_begin_of : DefAt K mg "begin_of" s_begin_of ["window"]
  d_end_of : DefAt K mg "end_of" s_end_of ["window"]
  d_windows_out : DefAt K mg "windows_out" s_windows_out ["book"]
  d_places_from : DefAt K mg "places_from" s_places_from ["book", "spot"]
  d_a_closed_lot : DefAt K mg "a_closed_lot" s_a_closed_lot ["book"]
  d_need_some_ring : DefAt K mg "need_some_ring" s_need_some_ring ["book"]
  d_book_without : DefAt K mg "book_without" s_book_without ["book", "windows"]
  d_can_go : DefAt K mg "can_go" s_can_go ["book", "windows"]
  d_needed : DefAt K mg "needed" s_needed ["book"]
  d_may_go : DefAt K mg "may_go" s_may_go ["book", "windows"]
  d_rest : DefAt K mg "rest" s_rest ["book"]
  d_law_well : DefAt K mg "_law_well" s_law_well ["script", "k"]
  d_law_pick : DefAt K mg "_law_pick" s_law_pick ["well", "ways"]
  d_law_one_of : DefAt K mg "_law_one_of" s_law_one_of ["well", "things"]
  d_law_round : DefAt K mg "_law_round" s_law_round ["size", "ring"]
  d_law_tally : DefAt K mg "_law_tally" s_law_tally ["steps"]
  d_law_ways_out : DefAt K mg "_law_ways_out" s_law_ways_out ["windows"]
  d_law_come_to : DefAt K mg "_law_come_to" s_law_come_to ["ways", "start"]
  d_law_hangs : DefAt K mg "_law_hangs" s_law_hangs ["windows"]
  d_law_without : DefAt K mg "_law_without" s_law_without ["windows", "lot"]
  d_law_wide_book : DefAt K mg "_law_wide_book" s_law_wide_book ["well", "most"]
  d_law_all_lots : DefAt K mg "_law_all_lots" s_law_all_lots ["windows"]
  d_law_some_lots : DefAt K mg "_law_some_lots" s_law_some_lots ["well", "book", "rings"]
  d_law_lots_right : DefAt K mg "_law_lots_right" s_law_lots_right ["book", "lots"]
  d_law_caught : DefAt K mg "_law_caught" s_law_caught ["book", "asks_rest"]
  d_law_needed_right : DefAt K mg "_law_needed_right" s_law_needed_right ["book"]
  d_law_rest_right : DefAt K mg "_law_rest_right" s_law_rest_right ["book", "found"]
  d_law_book_right : DefAt K mg "_law_book_right" s_law_book_right ["book", "lots"]
  d_law : DefAt K mg "law" s_law ["script"]
  k_may_go_windows_book : KbAt K mg "may_go" ["book", "windows"] ["windows", "book"] [1, 0]
  k_needed_book : KbAt K mg "needed" ["book"] ["book"] [0]
  k_rest_book : KbAt K mg "rest" ["book"] ["book"] [0]
  b_range : mg "range" = none
  b_len : mg "len" = none
  b_max : mg "max" = none
  b_min : mg "min" = none
  b_abs : mg "abs" = none
  b_int : mg "int" = none
  b_sorted : mg "sorted" = none
  b_tuple : mg "tuple" = none
  b_list : mg "list" = none
  b_all : mg "all" = none
  b_any : mg "any" = none
  b_isinstance : mg "isinstance" = none
  b_enumerate : mg "enumerate" = none
  b_repr : mg "repr" = none
  b_str : mg "str" = none
  b_bool : mg "bool" = none
  g_LETTERS : ∃ t, mg "LETTERS" = some (.str "abcdefghijklmnopqrstuvwxyz" t)
  g_LEAST_SIZE : ∃ t, mg "LEAST_SIZE" = some (.int (2) t)
  g_MOST_SIZE : ∃ t, mg "MOST_SIZE" = some (.int (6) t)
  x_ini : IniAt K xs ["self", "value"]
  x_NoRing : ExAt K mg xs "NoRing"
/-! ### values: numbers, words, windows, books -/
local macro_rules | `(tactic| walk_at "sq") => `(tactic| first | assumption | (refine ex_t ?_ ?_ <;> assumption) | (refine ex_l ?_ ?_ <;> assumption))
local macro_rules | `(tactic| walk_at "go") => `(tactic| repeat (first
  | refine ⟨_, rfl, ?_⟩
  | refine ⟨_, _, rfl, rfl, ?_⟩
  | refine ⟨_, _, rfl, .inr (by walk_at "sq"), ?_⟩
  | refine ⟨_, _, rfl, .inl (by walk_at "sq"), ?_⟩))
section
variable {P : Program} {w : World} {K : PySem.W.Frag} {mg : Str → Option Value} {base : Heap}
def sp_is_integer : Sp := fun vs H Q _ => ∃ i, vs = [.int i] ∧ Q (.bl true) H
theorem ok_is_integer (T : Tx K mg) : Ok P w K mg base CX0 1 "is_integer" ["value"] sp_is_integer := by
  refine T.d_is_integer.ok sc_is_integer (fun vs H Q E h => ?_) (fun f cdv A outer s H vs Q E hG hr h => ?_)
  · obtain ⟨i, rfl, _⟩ := h
    rfl
  · obtain ⟨i, rfl, q⟩ := h
    refine ⟨_, (pss_one (ps_ret (pe_and (pe_callB (call_isiK2 (K := K)) (by rfl) T.b_isinstance (by decide +kernel) (pa_cons (pv 0) (pa_cons (pe_gty (T := "int") T.b_int (by decide +kernel)) pa_nil))) (pe_one (pe_not (pe_callB (call_isiK2 (K := K)) (by rfl) T.b_isinstance (by decide +kernel) (pa_cons (pv 0) (pa_cons (pe_gty (T := "bool") T.b_bool (by decide +kernel)) pa_nil)))))))), ?_⟩
    refine ⟨_, rfl, _, _, _, _, true, rfl, .ty _, .base (.int i), kit_ty (by decide +kernel), true, rfl, ?_⟩
    exact ⟨_, rfl, _, _, _, _, false, rfl, .ty _, .base (.int i), kit_ty (by decide +kernel), false, rfl, q⟩
def sp_are_ascending (K : PySem.W.Frag) : Sp := fun vs H Q _ => ∃ a ws, vs = [.ref a] ∧ SqT K H a (ws.map V.str) ∧ Asc ws ∧ ws.length ≤ 1000 ∧ RetD K (.bool true) H Q
theorem ok_are_ascending (T : Tx K mg) : Ok P w K mg base CX0 1 "are_ascending" ["values"] (sp_are_ascending K) := by
  refine T.d_are_ascending.ok sc_are_ascending (fun vs H Q E h => ?_) (fun f cdv A outer s H vs Q E hG hr h => ?_)
  · obtain ⟨a, ws, rfl, _⟩ := h
    rfl
  · obtain ⟨a, ws, rfl, hS, hA, hl, q⟩ := h
    refine ⟨_, (pss_one (ps_ret (pe_callB (cr_allK (K := K) rfl) (by rfl) T.b_all (by decide +kernel) (pa_cons (pe_lc (own := [("at", 1)]) (g := gName 1) (tt := tYes) rfl sc_are_ascending.nd (pi_range1 (by rfl) T.b_range (pa_cons (pe_op op_sub (pe_callB (call_lenK (K := K)) (by rfl) T.b_len PySem.boot_len (pa_cons (pv 0) pa_nil)) pe_int) pa_nil)) (blkOk_by (own := [("at", 1)]) (N := n_are_ascending) (sc := defScope s_are_ascending) (by decide +kernel)) (fun _ _ _ _ _ => pg_name (i := 1) sc_are_ascending.nd rfl (Or.inl rfl)) (fun _ _ _ _ _ => pts_nil) (fun _ _ _ _ _ => (pe_cmpR op_lt_str (pe_ix (ix_tupK (K := K)) (pv 0) (pv 1) (fun _ _ => rfl)) (pe_ix (ix_tupK (K := K)) (pv 0) (pe_op op_add (pv 1) pe_int) (fun _ _ => rfl)) (nomark _)))) pa_nil)))), ?_⟩
    have hlen : (ws.map V.str).length = ws.length := List.length_map ..
    walk_at "go"
    refine ⟨by omega, by omega, fun D np => ?_⟩
    refine lc_rng K (fun _ => true) (fun _ => .bool true) np (by omega) (fun _ _ => rfl) (fun i x H2 Y Z hi e it hy _ => ?_) (fun H' acc e hp hd => ?_)
    · subst it
      have h1 : i < ws.length := by omega
      have h2 : i + 1 < ws.length := by omega
      refine ⟨rfl, lc_yes ?_⟩
      refine ⟨_, rfl, _, rfl, _, _, _, _, rfl, rfl, ex_t e hS, atI_of (j := i) (by omega) (get_map h1), ?_⟩
      refine ⟨_, rfl, _, rfl, _, _, rfl, rfl, _, _, _, _, rfl, rfl, ex_t e hS, atI_of (j := i + 1) (by omega) (get_map h2), ?_⟩
      refine ⟨_, _, rfl, rfl, hy rfl _ _ (Ex.refl _) ?_⟩
      have hlt : sg ws[i] < sg ws[i + 1] := List.pairwise_iff_getElem.mp hA i (i + 1) h1 h2 (by omega)
      rw [show decide (ws[i].cps.toList < ws[i + 1].cps.toList) = true from decide_eq_true hlt]
      exact .bl true
    · rw [givenD_all] at hd
      have hb : acc = ((List.range ((ws.map V.str).length - 1 : Int).toNat).map fun _ => true).map V.bl := bls_dpa (by rw [List.map_map]; exact hd)
      subst hb
      refine ⟨_, _, rfl, SqL.of hp, q _ _ e ?_⟩
      rw [show (((List.range ((ws.map V.str).length - 1 : Int).toNat).map fun _ => true).all id) = true from List.all_eq_true.mpr fun b hb => by
        obtain ⟨_, _, rfl⟩ := List.mem_map.mp hb
        rfl]
      exact .bl true
end
section
variable {P : Program} {w : World} {K : PySem.W.Frag} {mg : Str → Option Value} {base : Heap}
/-- whether a text is of small letters -/
def wordB (x : Str) : Bool := (sg x).all fun c => decide (97 ≤ c ∧ c ≤ 122)
theorem wordB_of {x : Str} (h : Word x) : wordB x = true := List.all_eq_true.mpr fun c hc => decide_eq_true (h c hc)
theorem wordB_word {x : Str} (h : wordB x = true) : Word x := fun c hc => of_decide_eq_true (List.all_eq_true.mp h c hc)
def sp_is_word (K : PySem.W.Frag) : Sp := fun vs H Q _ => ∃ x, vs = [.str x] ∧ x.length ≤ 100000 ∧ RetD K (.bool (wordB x)) H Q
theorem ok_is_word (T : Tx K mg) : Ok P w K mg base CX0 1 "is_word" ["value"] (sp_is_word K) := by
  refine T.d_is_word.ok sc_is_word (fun vs H Q E h => ?_) (fun f cdv A outer s H vs Q E hG hr h => ?_)
  · obtain ⟨x, rfl, _⟩ := h
    rfl
  · obtain ⟨x, rfl, hl, q⟩ := h
    refine ⟨_, (pss_one (ps_ret (pe_and (pe_callB (call_isiK2 (K := K)) (by rfl) T.b_isinstance (by decide +kernel) (pa_cons (pv 0) (pa_cons (pe_gty (T := "str") T.b_str (by decide +kernel)) pa_nil))) (pe_one (pe_callB (cr_allK (K := K) rfl) (by rfl) T.b_all (by decide +kernel) (pa_cons (pe_lc (own := [("sign", 1)]) (g := gName 1) (tt := tYes) rfl sc_is_word.nd (pi_str (pv 0)) (blkOk_by (own := [("sign", 1)]) (N := n_is_word) (sc := defScope s_is_word) (by decide +kernel)) (fun _ _ _ _ _ => pg_name (i := 1) sc_is_word.nd rfl (Or.inl rfl)) (fun _ _ _ _ _ => pts_nil) (fun _ _ _ _ _ => (pe_cmpR op_in_sign (pv 1) (pe_gstr T.g_LETTERS) (by rfl)))) pa_nil)))))), ?_⟩
    have hc : x.cps.size = x.length := rfl
    refine ⟨_, rfl, _, _, _, _, true, rfl, .ty _, .base (.str x), kit_ty (by decide +kernel), true, rfl, iteT ?_⟩
    refine ⟨_, rfl, x, rfl, fun D np => ?_⟩
    refine lc_st K (fun _ => true) (fun i => .bool (decide (97 ≤ (sg x).getD i 0 ∧ (sg x).getD i 0 ≤ 122))) np (by omega) (fun _ _ => rfl) (fun i v H2 Y Z hi e it hy _ => ?_) (fun H' acc e hp hd => ?_)
    · obtain ⟨c, hc, rfl⟩ := it
      have hg : (sg x).getD i 0 = c := by
        unfold sg
        rw [List.getD_eq_getElem?_getD, Array.getElem?_toList, hc]
        rfl
      refine ⟨rfl, lc_yes ?_⟩
      refine ⟨_, rfl, c, _, rfl, rfl, hy rfl _ _ (Ex.refl _) ?_⟩
      have e1 : decide (c ∈ (("abcdefghijklmnopqrstuvwxyz" : String) : Str).cps.toList) = decide (97 ≤ c ∧ c ≤ 122) := word_in c
      show Dp K H2 (.bl (decide (c ∈ (("abcdefghijklmnopqrstuvwxyz" : String) : Str).cps.toList))) (.bool (decide (97 ≤ (sg x).getD i 0 ∧ (sg x).getD i 0 ≤ 122)))
      rw [e1, hg]
      exact .bl _
    · rw [givenD_all] at hd
      have hb : acc = ((List.range x.cps.size).map fun i => decide (97 ≤ (sg x).getD i 0 ∧ (sg x).getD i 0 ≤ 122)).map V.bl := bls_dpa (by rw [List.map_map]; exact hd)
      subst hb
      refine ⟨_, _, rfl, SqL.of hp, q _ _ e ?_⟩
      have eq : ((List.range x.cps.size).map fun i => decide (97 ≤ (sg x).getD i 0 ∧ (sg x).getD i 0 ≤ 122)).all id = wordB x := by
        have : (List.range x.cps.size).map (fun i => decide (97 ≤ (sg x).getD i 0 ∧ (sg x).getD i 0 ≤ 122)) = (sg x).map fun c => decide (97 ≤ c ∧ c ≤ 122) := by
          apply List.ext_getElem
          · simp [sg]
          · intro i h1 h2
            simp only [List.getElem_map, List.getElem_range]
            have hi : i < (sg x).length := by simpa using h2
            rw [List.getD_eq_getElem?_getD, List.getElem?_eq_getElem hi]
            rfl
        rw [this, List.all_map]
        rfl
      rw [eq]
      exact .bl _
def sp_is_size : Sp := fun vs H Q _ => ∃ n : Int, vs = [.int n] ∧ 2 ≤ n ∧ n ≤ 6 ∧ Q (.bl true) H
theorem ok_is_size (T : Tx K mg) : Ok P w K mg base CX0 2 "is_size" ["value"] sp_is_size := by
  refine T.d_is_size.ok sc_is_size (fun vs H Q E h => ?_) (fun f cdv A outer s H vs Q E hG hr h => ?_)
  · obtain ⟨n, rfl, _⟩ := h
    rfl
  · obtain ⟨n, rfl, h1, h2, q⟩ := h
    refine ⟨_, (pss_one (ps_ret (pe_and (pe_callO (ok_is_integer T) hG (hr.mono (by decide)) (pa_cons (pv 0) pa_nil)) (pe_one (pe_chain op_le op_le (pe_gint T.g_LEAST_SIZE) (pv 0) (pe_gint T.g_MOST_SIZE)))))), ?_⟩
    refine ⟨_, rfl, n, rfl, true, rfl, iteT ?_⟩
    refine ⟨_, rfl, 2, n, rfl, rfl, _, rfl, ?_⟩
    rw [decide_eq_true h1]
    refine iteT ⟨_, _, rfl, rfl, ?_⟩
    show Q (.bl (decide (n ≤ 6))) H
    rw [decide_eq_true h2]
    exact q
def sp_are_windows (K : PySem.W.Frag) : Sp := fun vs H Q _ => ∃ (n : Nat) (a : Addr) (ws : List Str), vs = [.int n, .ref a] ∧ SqT K H a (ws.map V.str) ∧ Win n ws ∧ n ≤ 6 ∧ ws.length ≤ 1000 ∧ RetD K (.bool true) H Q
theorem ok_are_windows (T : Tx K mg) : Ok P w K mg base CX0 2 "are_windows" ["size", "value"] (sp_are_windows K) := by
  refine T.d_are_windows.ok sc_are_windows (fun vs H Q E h => ?_) (fun f cdv A outer s H vs Q E hG hr h => ?_)
  · obtain ⟨n, a, ws, rfl, _⟩ := h
    rfl
  · obtain ⟨n, a, ws, rfl, hS, ⟨hW, hA⟩, h6, hl, q⟩ := h
    refine ⟨_, (pss_cons (ps_if (PW.pt (pw_or (pt_not (pt_val (pe_callB (call_isiK2 (K := K)) (by rfl) T.b_isinstance (by decide +kernel) (pa_cons (pv 1) (pa_cons (pe_gty (T := "tuple") T.b_tuple (by decide +kernel)) pa_nil))))) (pw_or1 (pt_not (pt_val (pe_callB (cr_allK (K := K) rfl) (by rfl) T.b_all (by decide +kernel) (pa_cons (pe_lc (own := [("window", 2)]) (g := gName 2) (tt := tYes) rfl sc_are_windows.nd (pi_tupK (K := K) (pv 1)) (blkOk_by (own := [("window", 2)]) (N := n_are_windows) (sc := defScope s_are_windows) (by decide +kernel)) (fun _ _ _ _ _ => pg_name (i := 2) sc_are_windows.nd rfl (Or.inl rfl)) (fun _ _ _ _ _ => pts_nil) (fun _ _ _ _ _ => (pe_and (pe_callO (ok_is_word T) hG (hr.mono (by decide)) (pa_cons (pv 2) pa_nil)) (pe_one (pe_cmpR op_eq (pe_callB call_len_str (by rfl) T.b_len PySem.boot_len (pa_cons (pv 2) pa_nil)) (pv 0) (nomark _)))))) pa_nil))))))) (pss_one (ps_ret pe_bl)) pss_nil) (pss_one (ps_ret (pe_callO (ok_are_ascending T) hG (hr.mono (by decide)) (pa_cons (pv 1) pa_nil))))), ?_⟩
    have hlen : (ws.map V.str).length = ws.length := List.length_map ..
    refine ⟨_, rfl, _, _, _, _, true, rfl, .ty _, tyT hS, kit_ty (by decide +kernel), true, rfl, ?_⟩
    refine iteF ?_
    refine ⟨_, rfl, a, rfl, ⟨_, hS⟩, fun D np => ?_⟩
    refine lc_tp hS (fun _ => true) (fun _ => .bool true) np (by omega) (fun _ _ => rfl) (fun i x H2 Y Z hi e it hy _ => ?_) (fun H' acc e hp hd => ?_)
    · obtain ⟨z, hz, rfl⟩ := str_at it
      obtain ⟨w1, w2⟩ := hW z (List.mem_of_getElem? hz)
      refine ⟨rfl, lc_yes ?_⟩
      refine ⟨_, rfl, z, rfl, by omega, fun v H3 e3 hv => ?_⟩
      obtain rfl := dp_bl hv
      refine ⟨_, rfl, ?_⟩
      rw [wordB_of w1]
      refine iteT ⟨_, rfl, z, rfl, sz_of (by omega), _, rfl, rfl, hy rfl _ _ e3 ?_⟩
      rw [w2]
      rw [decide_eq_true rfl]
      exact .bl _
    · rw [givenD_all] at hd
      have hb : acc = ((List.range (ws.map V.str).length).map fun _ => true).map V.bl := bls_dpa (by rw [List.map_map]; exact hd)
      subst hb
      refine ⟨_, _, rfl, SqL.of hp, _, rfl, ?_⟩
      rw [show (((List.range (ws.map V.str).length).map fun _ => true).all id) = true from List.all_eq_true.mpr fun b hb => by
        obtain ⟨_, _, rfl⟩ := List.mem_map.mp hb
        rfl]
      refine iteF ?_
      exact ⟨_, rfl, a, ws, rfl, ex_t e hS, hA, hl, fun v H3 e3 hv => q v H3 (e.trans e3) hv⟩
def sp_is_a_book (K : PySem.W.Frag) : Sp := fun vs H Q _ => ∃ (v : V) (n : Nat) (ws : List Str), vs = [v] ∧ Dp K H v (bookD n ws) ∧ Bk n ws ∧ RetD K (.bool true) H Q
theorem ok_is_a_book (T : Tx K mg) : Ok P w K mg base CX0 3 "is_a_book" ["value"] (sp_is_a_book K) := by
  refine T.d_is_a_book.ok sc_is_a_book (fun vs H Q E h => ?_) (fun f cdv A outer s H vs Q E hG hr h => ?_)
  · obtain ⟨v, n, ws, rfl, _⟩ := h
    rfl
  · obtain ⟨v, n, ws, rfl, hB, B, q⟩ := h
    obtain ⟨a, t, rfl, h1, h2⟩ := dp_book hB
    refine ⟨_, (pss_cons (ps_if (PW.pt (pw_or (pt_not (pt_val (pe_callB (call_isiK2 (K := K)) (by rfl) T.b_isinstance (by decide +kernel) (pa_cons (pv 0) (pa_cons (pe_gty (T := "tuple") T.b_tuple (by decide +kernel)) pa_nil))))) (pw_or (pt_cmpR op_ne (pe_callB (call_lenK (K := K)) (by rfl) T.b_len PySem.boot_len (pa_cons (pv 0) pa_nil)) pe_int (nomark _)) (pw_or1 (pt_not (pt_val (pe_callO (ok_is_size T) hG (hr.mono (by decide)) (pa_cons (pe_ix (ix_tupK (K := K)) (pv 0) pe_int (fun _ _ => rfl)) pa_nil)))))))) (pss_one (ps_ret pe_bl)) pss_nil) (pss_one (ps_ret (pe_and (pe_callO (ok_are_windows T) hG (hr.mono (by decide)) (pa_cons (pe_ix (ix_tupK (K := K)) (pv 0) pe_int (fun _ _ => rfl)) (pa_cons (pe_ix (ix_tupK (K := K)) (pv 0) pe_int (fun _ _ => rfl)) pa_nil))) (pe_one (pe_cmpR op_gt (pe_callB (call_lenK (K := K)) (by rfl) T.b_len PySem.boot_len (pa_cons (pe_ix (ix_tupK (K := K)) (pv 0) pe_int (fun _ _ => rfl)) pa_nil)) pe_int (nomark _))))))), ?_⟩
    have few := B.few
    have lo := B.lo
    have hi := B.hi
    refine ⟨_, rfl, _, _, _, _, true, rfl, .ty _, tyT h1, kit_ty (by decide +kernel), true, rfl, iteF ?_⟩
    refine ⟨_, rfl, _, _, rfl, .inr h1, rfl, _, rfl, iteF ?_⟩
    refine ⟨_, rfl, _, _, _, _, rfl, rfl, h1, atI_of (j := 0) rfl rfl, _, rfl, by omega, by omega, true, rfl, iteF ?_⟩
    refine ⟨_, rfl, _, _, _, _, rfl, rfl, h1, atI_of (j := 0) rfl rfl, _, rfl, _, _, _, _, rfl, rfl, h1, atI_of (j := 1) rfl rfl, n, t, ws, rfl, h2, B.win, hi, by omega, fun v H3 e3 hv => ?_⟩
    obtain rfl := dp_bl hv
    refine ⟨true, rfl, iteT ?_⟩
    refine ⟨_, rfl, _, _, _, _, rfl, rfl, ex_t e3 h1, atI_of (j := 1) rfl rfl, _, _, rfl, .inr (ex_t e3 h2), _, _, rfl, rfl, q _ _ e3 ?_⟩
    have hp : 0 < ws.length := List.length_pos_iff.mpr B.ne
    show Dp K H3 (.bl (decide ((0 : Int) < (ws.map V.str).length))) _
    rw [decide_eq_true (show (0 : Int) < (ws.map V.str).length by rw [List.length_map]; omega)]
    exact .bl true
def sp_need_book (K : PySem.W.Frag) : Sp := fun vs H Q _ => ∃ (v : V) (n : Nat) (ws : List Str), vs = [v] ∧ Dp K H v (bookD n ws) ∧ Bk n ws ∧ ∀ H', Ex H H' → Q .non H'
theorem ok_need_book (T : Tx K mg) : Ok P w K mg base CX0 4 "need_book" ["book"] (sp_need_book K) := by
  refine T.d_need_book.ok sc_need_book (fun vs H Q E h => ?_) (fun f cdv A outer s H vs Q E hG hr h => ?_)
  · obtain ⟨v, n, ws, rfl, _⟩ := h
    rfl
  · obtain ⟨v, n, ws, rfl, hB, B, q⟩ := h
    refine ⟨_, (pss_one (ps_if (pt_not (pt_val (pe_callO (ok_is_a_book T) hG (hr.mono (by decide)) (pa_cons (pv 0) pa_nil)))) (pss_one ps_never) pss_nil)), ?_⟩
    refine ⟨_, rfl, v, n, ws, rfl, hB, B, fun u H3 e3 hv => ?_⟩
    obtain rfl := dp_bl hv
    exact ⟨true, rfl, iteF (q _ e3)⟩
def sp_begin_of : Sp := fun vs H Q _ => ∃ x, vs = [.str x] ∧ x.length ≤ 1000000 ∧ Q (.str (begS x)) H
theorem ok_begin_of (T : Tx K mg) : Ok P w K mg base CX0 1 "begin_of" ["window"] sp_begin_of := by
  refine T.d_begin_of.ok sc_begin_of (fun vs H Q E h => ?_) (fun f cdv A outer s H vs Q E hG hr h => ?_)
  · obtain ⟨x, rfl, _⟩ := h
    rfl
  · obtain ⟨x, rfl, hl, q⟩ := h
    refine ⟨_, (pss_one (ps_ret (pe_slice sl_str (pv 0) po_none (po_some (pe_un un_neg pe_int))))), ?_⟩
    refine ⟨_, rfl, 1, rfl, _, rfl, x, rfl, sz_of hl, ?_⟩
    rw [show cutS x none (some (-1)) = begS x from cut_beg x]
    exact q
def sp_end_of : Sp := fun vs H Q _ => ∃ x, vs = [.str x] ∧ x.length ≤ 1000000 ∧ Q (.str (endS x)) H
theorem ok_end_of (T : Tx K mg) : Ok P w K mg base CX0 1 "end_of" ["window"] sp_end_of := by
  refine T.d_end_of.ok sc_end_of (fun vs H Q E h => ?_) (fun f cdv A outer s H vs Q E hG hr h => ?_)
  · obtain ⟨x, rfl, _⟩ := h
    rfl
  · obtain ⟨x, rfl, hl, q⟩ := h
    refine ⟨_, (pss_one (ps_ret (pe_slice sl_str (pv 0) (po_some pe_int) po_none))), ?_⟩
    refine ⟨_, rfl, 1, rfl, x, rfl, sz_of hl, ?_⟩
    rw [cut_end]
    exact q
end

/-! ### webs: places, windows by the place where they begin, what is come to -/
section
variable {P : Program} {w : World} {K : PySem.W.Frag} {mg : Str → Option Value} {base : Heap}
def sp_places_of (K : PySem.W.Frag) : Sp := fun vs H Q _ => ∃ (v : V) (n : Nat) (ws : List Str), vs = [v] ∧ Dp K H v (bookD n ws) ∧ (∀ x ∈ ws, x.length ≤ 100) ∧ ws.length ≤ 1000 ∧ RetD K (strsL (places ws)) H Q
theorem ok_places_of (T : Tx K mg) : Ok P w K mg base CX0 1 "places_of" ["book"] (sp_places_of K) := by
  refine T.d_places_of.ok sc_places_of (fun vs H Q E h => ?_) (fun f cdv A outer s H vs Q E hG hr h => ?_)
  · obtain ⟨v, n, ws, rfl, _⟩ := h
    rfl
  · obtain ⟨v, n, ws, rfl, hB, hx, hl, q⟩ := h
    obtain ⟨a, t, rfl, h1, h2⟩ := dp_book hB
    refine ⟨_, (pss_cons (ps_set (i := 1) sc_places_of.nd rfl (Or.inl rfl) pe_dnewK) (pss_cons (ps_for PassesOwn.never rfl (pi_tupK (K := K) (pe_ix (ix_tupK (K := K)) (pv 0) pe_int (fun _ _ => rfl))) (pg_name (i := 2) sc_places_of.nd rfl (Or.inl rfl)) (pss_cons (ps_dput (hu_of hr) (pv 1) (pe_slice sl_str (pv 2) po_none (po_some (pe_un un_neg pe_int))) pe_bl rfl) (pss_one (ps_dput (hu_of hr) (pv 1) (pe_slice sl_str (pv 2) (po_some pe_int) po_none) pe_bl rfl)))) (pss_one (ps_ret (pe_callB (cr_sortDct (K := K) rfl hr.units) (by rfl) T.b_sorted (by decide +kernel) (pa_cons (pv 1) pa_nil)))))), ?_⟩
    have lmap : (ws.map V.str).length = ws.length := List.length_map ..
    intro d nd
    refine ⟨_, rfl, _, _, _, _, rfl, rfl, ex_t (Ex.new nd) h1, atI_of (j := 1) rfl rfl, t, rfl, fo_tp h2 (fun i σ H' => ∃ x2, σ = [some (.ref a), some (.ref d), x2] ∧ Ex H H' ∧ H' d = some (.dK (trues (ded (plcs (ws.take i))))))
      ⟨none, rfl, Ex.new nd, upd_same⟩ (fun i σ H' ⟨_, _, e, _⟩ => e) ?_ ?_⟩
    · rintro i x σ H' hi ⟨x2, rfl, e, hd⟩
      obtain ⟨z, hz, rfl⟩ := str_at hi
      have zl := hx z (List.mem_of_getElem? hz)
      have hil : i < ws.length := (List.getElem?_eq_some_iff.mp hz).1
      have kl : (trues (ded (plcs (ws.take i)))).length ≤ 2000 := by
        rw [trues_len]
        have := ded_le (plcs (ws.take i))
        rw [plcs_len, List.length_take] at this
        omega
      refine ⟨_, rfl, _, rfl, 1, rfl, _, rfl, z, rfl, sz_of (by omega), ?_⟩
      rw [show cutS z none (some (-1)) = begS z from cut_beg z]
      refine ⟨d, _, rfl, DPut.k (k := kS (begS z)) hd (sz_lt (by omega)), ?_⟩
      rw [trues_add]
      refine ⟨_, rfl, _, rfl, 1, rfl, z, rfl, sz_of (by omega), ?_⟩
      rw [cut_end]
      have kl2 : (trues (addS (ded (plcs (ws.take i))) (begS z))).length ≤ 2001 := by
        have := addS_len (ded (plcs (ws.take i))) (begS z)
        rw [trues_len] at kl ⊢
        omega
      refine ⟨d, _, rfl, DPut.k (k := kS (endS z)) upd_same (sz_lt (by omega)), ?_⟩
      rw [trues_add, upd_upd]
      refine ⟨_, rfl, Ex.mut e nd, ?_⟩
      rw [upd_same, ded_plcs hz]
    · rintro σ H' ⟨x2, rfl, e, hd⟩
      rw [lmap, take_len] at hd
      refine ⟨_, rfl, d, _, ded (plcs ws), rfl, .inl hd, trues_keys _, ?_, fun p np => q _ _ (e.trans (Ex.new np)) (dpL (SqL.of upd_same))⟩
      have := ded_le (plcs ws)
      rw [plcs_len] at this
      omega
end
section
variable {P : Program} {w : World} {K : PySem.W.Frag} {mg : Str → Option Value} {base : Heap}
theorem plcs_one (ws : List Str) (z : Str) : plcs (ws ++ [z]) = (plcs ws ++ [begS z]) ++ [endS z] := by
  rw [plcs_app, List.append_assoc]
  rfl
/-- a place of a longer book stands by no window of the book ahead -/
theorem grp_new {g : Str → Str} {ws : List Str} {p : Str} (h : p ∉ plcs ws) : grp begS g ws p = [] := grp_none fun x hx e => h (e ▸ beg_mem hx)
def sp_windows_out (K : PySem.W.Frag) : Sp := fun vs H Q _ => ∃ (v : V) (n : Nat) (ws : List Str), vs = [v] ∧ Dp K H v (bookD n ws) ∧ (∀ x ∈ ws, x.length ≤ 100) ∧ ws.length ≤ 1000 ∧
  ∀ d H', Ex H H' → Wd H' d (ded (plcs ws)) (grp begS id ws) → Q (.ref d) H'
theorem ok_windows_out (T : Tx K mg) : Ok P w K mg base CX0 2 "windows_out" ["book"] (sp_windows_out K) := by
  refine T.d_windows_out.ok sc_windows_out (fun vs H Q E h => ?_) (fun f cdv A outer s H vs Q E hG hr h => ?_)
  · obtain ⟨v, n, ws, rfl, _⟩ := h
    rfl
  · obtain ⟨v, n, ws, rfl, hB, hx, hl, q⟩ := h
    obtain ⟨a, t, rfl, h1, h2⟩ := dp_book hB
    refine ⟨_, (pss_cons (ps_set (i := 1) sc_windows_out.nd rfl (Or.inl rfl) pe_dnewK) (pss_cons (ps_for PassesOwn.never rfl (pi_tupK (K := K) (pe_ix (ix_tupK (K := K)) (pv 0) pe_int (fun _ _ => rfl))) (pg_name (i := 2) sc_windows_out.nd rfl (Or.inl rfl)) (pss_cons (ps_for PassesOwn.never rfl (pi_tupK (K := K) (pe_tup (pa_cons (pe_callO (ok_begin_of T) hG (hr.mono (by decide)) (pa_cons (pv 2) pa_nil)) (pa_cons (pe_callO (ok_end_of T) hG (hr.mono (by decide)) (pa_cons (pv 2) pa_nil)) pa_nil)))) (pg_name (i := 3) sc_windows_out.nd rfl (Or.inl rfl)) (pss_one (ps_if (pt_cmp (pc_dnotin (hu_of hr) (pv 3) (pv 1))) (pss_one (ps_dput (hu_of hr) (pv 1) (pv 3) (pe_lst pa_nil) rfl)) pss_nil))) (pss_cons (ps_set (i := 4) sc_windows_out.nd rfl (Or.inl rfl) (pe_dget (hu_of hr) (pv 1) (pe_callO (ok_begin_of T) hG (hr.mono (by decide)) (pa_cons (pv 2) pa_nil)) (fun _ _ => rfl))) (pss_one (ps_expr (pe_bmK (K := K) PySem.F.plainAttrs_list PySem.F.slot_list_append PySem.F.type_list_append mt_append (pv 4) (pa_cons (pv 2) pa_nil))))))) (pss_one (ps_ret (pv 1))))), ?_⟩
    have lmap : (ws.map V.str).length = ws.length := List.length_map ..
    intro d nd
    refine ⟨_, rfl, _, _, _, _, rfl, rfl, ex_t (Ex.new nd) h1, atI_of (j := 1) rfl rfl, t, rfl, fo_tp h2 (fun i σ H' => ∃ rs x2 x3 x4, σ = [some (.ref a), some (.ref d), x2, x3, x4] ∧ Wb H H' d (ded (plcs (ws.take i))) (grp begS id (ws.take i)) rs)
      ⟨fun _ => 0, none, none, none, rfl, Wb.start nd⟩ (fun i σ H' ⟨_, _, _, _, _, W⟩ => W.e) ?_ ?_⟩
    · rintro i x σ H' hi ⟨rs, x2, x3, x4, rfl, W⟩
      obtain ⟨z, hz, rfl⟩ := str_at hi
      have zl := hx z (List.mem_of_getElem? hz)
      have hil : i < ws.length := (List.getElem?_eq_some_iff.mp hz).1
      have kl : (ded (plcs (ws.take i))).length ≤ 2000 := by
        have := ded_le (plcs (ws.take i))
        rw [plcs_len, List.length_take] at this
        omega
      refine ⟨_, rfl, z, rfl, by omega, _, rfl, z, rfl, by omega, sz_of (by show 2 ≤ 1000000; decide), fun p np => ⟨p, rfl, ?_⟩⟩
      have new0 : ∀ k, k ∉ ded (plcs (ws.take i)) → grp begS id (ws.take i) k = [] := fun k hk => grp_new fun q => hk (ded_mem.mpr q)
      have Hp0 : H p = none := fresh_back W.e np
      refine fo_tp (Hb := upd H p (.tup [.str (begS z), .str (endS z)])) (xs := [.str (begS z), .str (endS z)]) (SqT.of upd_same) (fun j σ H'' => ∃ rs x3, σ = [some (.ref a), some (.ref d), some (.str z), x3, x4] ∧ Wb (upd H p (.tup [.str (begS z), .str (endS z)])) H'' d (([begS z, endS z].take j).foldl addS (ded (plcs (ws.take i)))) (grp begS id (ws.take i)) rs) ?_ ?_ ?_ ?_
      · exact ⟨rs, x3, rfl, W.up np⟩
      · exact fun j σ H'' ⟨_, _, _, W⟩ => W.e
      · rintro j x σ H'' hj ⟨rs, x3, rfl, W⟩
        obtain ⟨k, hk, rfl⟩ := str_at (ws := [begS z, endS z]) hj
        have ek : ([begS z, endS z].take (j + 1)).foldl addS (ded (plcs (ws.take i))) = addS (([begS z, endS z].take j).foldl addS (ded (plcs (ws.take i)))) k := by
          rw [take_snoc hk, List.foldl_append]
          rfl
        rw [ek]
        have hsub : ∀ y ∈ ded (plcs (ws.take i)), y ∈ ([begS z, endS z].take j).foldl addS (ded (plcs (ws.take i))) := fun y hy => foldl_addS_mem.mpr (.inl hy)
        have hlen : (([begS z, endS z].take j).foldl addS (ded (plcs (ws.take i)))).length ≤ 2002 := by
          have := nodup_len W.nk (l := ded (plcs (ws.take i)) ++ [begS z, endS z]) fun y hy => (foldl_addS_mem.mp hy).elim (fun q => List.mem_append_left _ q) fun q => List.mem_append_right _ (List.mem_of_mem_take q)
          rw [List.length_append] at this
          have e2 : [begS z, endS z].length = 2 := rfl
          omega
        generalize hks : ([begS z, endS z].take j).foldl addS (ded (plcs (ws.take i))) = ks at W hsub hlen
        refine ⟨_, rfl, _, rfl, d, _, rfl, DGet.k (k := kS k) W.hd, _, rfl, ?_⟩
        by_cases hkk : k ∈ ks
        · rw [show (!(valV (wkv rs ks) (kS k)).isSome) = false by rw [wkv_in, decide_eq_true hkk]; rfl]
          refine iteF ⟨rs, some (.str k), rfl, ?_⟩
          rw [addS, if_pos hkk]
          exact W
        · rw [show (!(valV (wkv rs ks) (kS k)).isSome) = true by rw [wkv_in, decide_eq_false hkk]; rfl]
          refine iteT ⟨sz_of (by show 0 ≤ 1000000; decide), fun p2 np2 => ⟨_, rfl, _, rfl, d, _, rfl, DPut.k (k := kS k) ((Ex.new np2) _ _ W.hd) (sz_lt (by rw [wkv_len]; omega)), fun y => if y = k then p2 else rs y, some (.str k), rfl, ?_⟩⟩
          rw [addS, if_neg hkk]
          exact W.put hkk np2 (new0 k fun q => hkk (hsub k q))
      · rintro σ H'' ⟨rs, x3, rfl, W⟩
        have W := W.down Hp0
        rw [show ([begS z, endS z].take [V.str (begS z), V.str (endS z)].length).foldl addS (ded (plcs (ws.take i))) = ded (plcs (ws.take (i + 1))) by rw [ded_plcs hz]; rfl] at W
        have hbk : begS z ∈ ded (plcs (ws.take (i + 1))) := ded_mem.mpr (beg_mem (by rw [take_snoc hz]; exact List.mem_append_right _ (List.mem_singleton.mpr rfl)))
        obtain ⟨r1, r2⟩ := W.row _ hbk
        refine ⟨_, rfl, _, rfl, z, rfl, by omega, d, .ref (rs (begS z)), rfl, ?_, ?_⟩
        · rw [← wkv_val (rs := rs) hbk]
          exact DGet.k (k := kS (begS z)) W.hd
        · refine ⟨_, rfl, .inl ⟨rfl, _, SqL.of r2⟩, _, rfl, _, _, _, rfl, rfl, r2, ?_, rs, _, _, _, rfl, ?_⟩
          · rw [List.length_map]
            have := grp_len begS id (ws.take i) (begS z)
            rw [List.length_take] at this
            exact sz_lt (by omega)
          · refine (W.app hbk).as fun k _ => ?_
            rw [take_snoc hz, grp_snoc]
            rfl
    · rintro σ H' ⟨rs, x2, x3, x4, rfl, W⟩
      rw [lmap, take_len] at W
      exact ⟨_, rfl, q _ _ W.e W.wd⟩
end

/-! ### floods -/
section
variable {P : Program} {w : World} {K : PySem.W.Frag} {mg : Str → Option Value} {base : Heap}
structure Ws (ws : List Str) : Prop where
  wd : ∀ x ∈ ws, Word x ∧ x.length ≤ 100
  few : ws.length ≤ 1000
theorem Bk.ws {n : Nat} {ws : List Str} (B : Bk n ws) : Ws ws := ⟨fun x hx => ⟨(B.win.1 x hx).1, by have := (B.win.1 x hx).2; have := B.hi; omega⟩, by have := B.few; omega⟩
theorem Ws.plc {ws : List Str} (h : Ws ws) {p : Str} (hp : p ∈ plcs ws) : Word p ∧ p.length ≤ 100 := by
  obtain ⟨x, hx, e⟩ := plcs_mem.mp hp
  obtain ⟨h1, h2⟩ := h.wd x hx
  rcases e with rfl | rfl
  · exact ⟨word_beg h1, by rw [len_beg]; omega⟩
  · exact ⟨word_end h1, by rw [len_end]; omega⟩
theorem srch_len {ws ks wl : List Str} {p : Str} {op : Str → Prop} (hp : p ∈ plcs ws) (S : Srch (nxts ws) p ks wl op) : ks.length ≤ 2 * ws.length := by
  rw [← plcs_len]
  exact nodup_len S.nd fun q hq => rch_plc hp (S.rch q hq)
/-- where a flood stands -/
structure Fl (ws : List Str) (p : Str) (Hb H : Hp) (F W : Addr) (op : Str → Prop) (ks wl : List Str) : Prop where
  e : Ex Hb H
  f : Hb F = none
  w : Hb W = none
  hF : H F = some (.dK (trues ks))
  hW : H W = some (.lst (wl.map V.str))
  S : Srch (nxts ws) p ks wl op
  n : wl.Nodup
theorem Fl.ne {ws : List Str} {p : Str} {Hb H : Hp} {F W : Addr} {op : Str → Prop} {ks wl : List Str} (f : Fl ws p Hb H F W op ks wl) : F ≠ W := ne_of f.hF f.hW fun z => nomatch z
theorem Fl.ex {ws : List Str} {p : Str} {Hb H H' : Hp} {F W : Addr} {op : Str → Prop} {ks wl : List Str} (f : Fl ws p Hb H F W op ks wl) (e : Ex H H') : Fl ws p Hb H' F W op ks wl := ⟨f.e.trans e, f.f, f.w, e _ _ f.hF, e _ _ f.hW, f.S, f.n⟩
theorem Fl.pop {ws : List Str} {p q : Str} {Hb H : Hp} {F W : Addr} {ks wl : List Str} (f : Fl ws p Hb H F W (fun _ => False) ks (wl ++ [q])) : Fl ws p Hb (upd H W (.lst (wl.map V.str))) F W (fun z => z = q) ks wl :=
  ⟨Ex.mut f.e f.w, f.f, f.w, by rw [upd_ne f.ne]; exact f.hF, upd_same, f.S.pop, (List.nodup_append.mp f.n).1⟩
theorem Fl.put {ws : List Str} {p q r : Str} {Hb H : Hp} {F W : Addr} {ks wl : List Str} (f : Fl ws p Hb H F W (fun z => z = q) ks wl) (hq : q ∈ ks) (hr : r ∈ nxts ws q) (hn : r ∉ ks) :
    Fl ws p Hb (upd (upd H F (.dK (putK (trues ks) (kS r) (.bl true)))) W (.lst (wl.map V.str ++ [.str r]))) F W (fun z => z = q) (ks ++ [r]) (wl ++ [r]) :=
  ⟨Ex.mut (Ex.mut f.e f.f) f.w, f.f, f.w, by rw [upd_ne f.ne, upd_same, trues_put hn], by rw [upd_same, List.map_append]; rfl, f.S.put hq hr hn, List.nodup_append.mpr ⟨f.n, nodup_one r, fun a ha b hb (e : a = b) => hn (by rw [← List.mem_singleton.mp hb, ← e]; exact f.S.sub a ha)⟩⟩
theorem Fl.shut {ws : List Str} {p q : Str} {Hb H : Hp} {F W : Addr} {ks wl : List Str} (f : Fl ws p Hb H F W (fun z => z = q) ks wl) (h : ∀ r ∈ nxts ws q, r ∈ ks) : Fl ws p Hb H F W (fun _ => False) ks wl := ⟨f.e, f.f, f.w, f.hF, f.hW, f.S.shut h, f.n⟩
/-- how much is left to do -/
def flm (ws ks wl : List Str) : Nat := 2 * (2 * ws.length - ks.length) + wl.length
def sp_places_from (K : PySem.W.Frag) : Sp := fun vs H Q _ => ∃ (v : V) (n : Nat) (ws : List Str) (p : Str), vs = [v, .str p] ∧ Dp K H v (bookD n ws) ∧ Ws ws ∧ p ∈ plcs ws ∧
  ∀ d H' ks, Ex H H' → ks.Nodup → (∀ q, q ∈ ks ↔ Rch (nxts ws) p q) → H' d = some (.dK (trues ks)) → Q (.ref d) H'
theorem ok_places_from (T : Tx K mg) : Ok P w K mg base CX0 3 "places_from" ["book", "spot"] (sp_places_from K) := by
  refine T.d_places_from.ok sc_places_from (fun vs H Q E h => ?_) (fun f cdv A outer s H vs Q E hG hr h => ?_)
  · obtain ⟨v, n, ws, p, rfl, _⟩ := h
    rfl
  · obtain ⟨v, n, ws, p, rfl, hB, hw, hp, q⟩ := h
    refine ⟨_, (pss_cons (ps_set (i := 2) sc_places_from.nd rfl (Or.inl rfl) (pe_callO (ok_windows_out T) hG (hr.mono (by decide)) (pa_cons (pv 0) pa_nil))) (pss_cons (ps_par (i := 3) (j := 4) rfl sc_places_from.nd rfl rfl (by decide) rfl rfl (pa_cons (pe_disp (pps_cons (pv 1) pe_bl pps_nil) (by rfl) (by rfl) (fun z => by cases z) (by decide)) (pa_cons (pe_lst (pa_cons (pv 1) pa_nil)) pa_nil)) (by rfl)) (pss_cons (ps_while PassesOwn.never (pt_cmpR (op_neDK (K := K) hr.units) (pv 4) (pe_lst pa_nil) (nomark _)) (pss_one (ps_for PassesOwn.never rfl (pi_listK (K := K) (pe_dget (hu_of hr) (pv 2) (pe_bm0K (K := K) PySem.F.plainAttrs_list PySem.F.slot_list_pop PySem.F.type_list_pop mt_pop (pv 4)) (fun _ _ => rfl))) (pg_name (i := 5) sc_places_from.nd rfl (Or.inl rfl)) (pss_one (ps_if (pt_cmp (pc_dnotin (hu_of hr) (pe_callO (ok_end_of T) hG (hr.mono (by decide)) (pa_cons (pv 5) pa_nil)) (pv 3))) (pss_cons (ps_dput (hu_of hr) (pv 3) (pe_callO (ok_end_of T) hG (hr.mono (by decide)) (pa_cons (pv 5) pa_nil)) pe_bl rfl) (pss_one (ps_expr (pe_bmK (K := K) PySem.F.plainAttrs_list PySem.F.slot_list_append PySem.F.type_list_append mt_append (pv 4) (pa_cons (pe_callO (ok_end_of T) hG (hr.mono (by decide)) (pa_cons (pv 5) pa_nil)) pa_nil))))) pss_nil))))) (pss_one (ps_ret (pv 3)))))), ?_⟩
    refine ⟨_, rfl, v, n, ws, rfl, hB, fun x hx => (hw.wd x hx).2, hw.few, fun D H1 e1 wD => ?_⟩
    -- found, waiting
    refine fun F nF => ⟨_, rfl, upd_same, [(kS p, .bl true)], rfl, by show 1 ≤ 15; decide, _, rfl, sz_of (by show 1 ≤ 1000000; decide), fun W nW => ⟨_, _, rfl, ?_⟩⟩
    have FW : F ≠ W := ne_of_none upd_same nW
    have nW1 : H1 W = none := by
      rw [upd_upd, upd_ne FW.symm] at nW
      exact nW
    have fl0 : Fl ws p H1 (upd (upd (upd H1 F (.dK [])) F (.dK (mergeK [] [(kS p, .bl true)]))) W (.lst [.str p])) F W (fun _ => False) [p] [p] := by
      rw [upd_upd]
      exact ⟨Ex.mut (Ex.new nF) nW1, nF, nW1, by rw [upd_ne FW, upd_same]; rfl, by rw [upd_same]; rfl, .start, nodup_one p⟩
    refine ⟨fun m σ H' => ∃ x5 ks wl, σ = [some v, some (.str p), some (.ref D), some (.ref F), some (.ref W), x5] ∧ m = flm ws ks wl ∧ Fl ws p H1 H' F W (fun _ => False) ks wl, ⟨_, _, _, _, rfl, rfl, fl0⟩, ?_⟩
    rintro m σ H' ⟨x5, ks, wl, rfl, rfl, fl⟩
    have wlw : ∀ z ∈ wl, Word z := fun z hz => (hw.plc (rch_plc hp (fl.S.rch z (fl.S.sub z hz)))).1
    refine ⟨_, rfl, sz_of (by show 0 ≤ 1000000; decide), fun np nnp => ⟨strsL wl, .list [], dpL (SqL.of ((Ex.new nnp) _ _ fl.hW)), .lst (SqL.of upd_same) .nil, shapedL wlw, rfl, _, rfl, ?_⟩⟩
    have fl := fl.ex (Ex.new (o := .lst []) nnp)
    rcases snoc_cases wl with rfl | ⟨wl', pp, rfl⟩
    · exact iteF ⟨_, rfl, q _ _ _ (e1.trans fl.e) fl.S.nd fl.S.done fl.hF⟩
    · rw [ne_nilS]
      refine iteT ⟨fun σ' H' => ∃ x5 ks' wl2, σ' = [some v, some (.str p), some (.ref D), some (.ref F), some (.ref W), x5] ∧ flm ws ks' wl2 < flm ws ks (wl' ++ [pp]) ∧ Fl ws p H1 H' F W (fun _ => False) ks' wl2,
        fun σ' H' ⟨x5, ks', wl2, e, l, f⟩ => ⟨_, l, x5, ks', wl2, e, rfl, f⟩, ?_⟩
      have ppk : pp ∈ ks := fl.S.sub _ (List.mem_append_right _ (List.mem_singleton.mpr rfl))
      have ppp : pp ∈ plcs ws := rch_plc hp (fl.S.rch pp ppk)
      obtain ⟨r, g1, g2⟩ := wD.get (ded_mem.mpr ppp)
      refine ⟨_, rfl, _, rfl, .inl ⟨rfl, _, SqL.of fl.hW⟩, _, _, .str pp, rfl, rfl, fl.hW, last_at, ?_⟩
      rw [drop_last]
      have fl := fl.pop
      have ksl := srch_len hp fl.S
      refine ⟨D, .ref r, rfl, g1 _ fl.e, r, rfl, fo_lst (SqL.of g2) (fun j σ H'' => ∃ x5 ks' wl2, σ = [some v, some (.str p), some (.ref D), some (.ref F), some (.ref W), x5] ∧ Fl ws p H1 H'' F W (fun z => z = pp) ks' wl2 ∧ flm ws ks' wl2 < flm ws ks (wl' ++ [pp]) ∧ pp ∈ ks' ∧ ∀ x ∈ (grp begS id ws pp).take j, endS x ∈ ks')
        ⟨x5, ks, wl', rfl, fl, ?_, ppk, fun x hx => (List.not_mem_nil hx).elim⟩ (fun j σ H'' ⟨_, _, _, _, f, _⟩ => f.e) ?_ ?_⟩
      · unfold flm
        rw [List.length_append]
        have : [pp].length = 1 := rfl
        omega
      · rintro j x σ H'' hj ⟨x5, ks', wl2, rfl, fl, lt, hpp, hin⟩
        obtain ⟨z, hz, rfl⟩ := str_at hj
        have zg : z ∈ grp begS id ws pp := List.mem_of_getElem? hz
        have zo : z ∈ ws ∧ begS z = pp := by
          obtain ⟨y, hy, rfl⟩ := List.mem_map.mp zg
          exact outs_mem.mp hy
        have zl := (hw.wd z zo.1).2
        have znx : endS z ∈ nxts ws pp := nxts_mem.mpr ⟨z, zo.1, zo.2, rfl⟩
        have ksl := srch_len hp fl.S
        have few := hw.few
        refine ⟨_, rfl, z, rfl, by omega, _, rfl, F, _, rfl, DGet.k (k := kS (endS z)) fl.hF, _, rfl, ?_⟩
        by_cases hk : endS z ∈ ks'
        · rw [show (!(valV (trues ks') (kS (endS z))).isSome) = false by rw [trues_in, decide_eq_true hk]; rfl]
          refine iteF ⟨_, ks', wl2, rfl, fl, lt, hpp, fun y hy => ?_⟩
          rw [take_snoc hz] at hy
          rcases List.mem_append.mp hy with hy | hy
          · exact hin y hy
          · rw [List.mem_singleton.mp hy]
            exact hk
        · rw [show (!(valV (trues ks') (kS (endS z))).isSome) = true by rw [trues_in, decide_eq_false hk]; rfl]
          have fl2 := fl.put hpp znx hk
          have ksl2 := srch_len hp fl2.S
          have wll : wl2.length ≤ 4000 := by
            have h1 := nodup_len fl.n fl.S.sub
            omega
          refine iteT ⟨_, rfl, _, rfl, z, rfl, by omega, F, _, rfl, DPut.k (k := kS (endS z)) fl.hF (sz_lt (by rw [trues_len]; omega)), ?_⟩
          have hW2 : (upd H'' F (.dK (putK (trues ks') (kS (endS z)) (.bl true)))) W = some (.lst (wl2.map V.str)) := by
            rw [upd_ne fl.ne.symm]
            exact fl.hW
          refine ⟨_, rfl, .inl ⟨rfl, _, SqL.of hW2⟩, _, rfl, z, rfl, by omega, _, _, _, rfl, rfl, hW2, sz_lt (by rw [List.length_map]; omega), some (.str z), ks' ++ [endS z], wl2 ++ [endS z], rfl, fl2, ?_, List.mem_append_left _ hpp, fun y hy => ?_⟩
          · have e : flm ws (ks' ++ [endS z]) (wl2 ++ [endS z]) < flm ws ks' wl2 := by
              unfold flm
              rw [List.length_append, List.length_append] at *
              have : [endS z].length = 1 := rfl
              omega
            omega
          · rw [take_snoc hz] at hy
            rcases List.mem_append.mp hy with hy | hy
            · exact List.mem_append_left _ (hin y hy)
            · rw [List.mem_singleton.mp hy]
              exact List.mem_append_right _ (List.mem_singleton.mpr rfl)
      · rintro σ H'' ⟨x5, ks', wl2, rfl, fl, lt, hpp, hin⟩
        refine ⟨x5, ks', wl2, rfl, lt, fl.shut fun r hr => ?_⟩
        obtain ⟨y, hy, h1, rfl⟩ := nxts_mem.mp hr
        refine hin y ?_
        rw [List.length_map, List.take_length]
        exact List.mem_map.mpr ⟨y, outs_mem.mpr ⟨hy, h1⟩, rfl⟩
end
section
variable {P : Program} {w : World} {K : PySem.W.Frag} {mg : Str → Option Value} {base : Heap}
def sp_a_closed_lot (K : PySem.W.Frag) : Sp := fun vs H Q _ => ∃ (v : V) (n : Nat) (ws : List Str), vs = [v] ∧ Dp K H v (bookD n ws) ∧ Ws ws ∧ RetD K (closedD ws) H Q
theorem ok_a_closed_lot (T : Tx K mg) : Ok P w K mg base CX0 4 "a_closed_lot" ["book"] (sp_a_closed_lot K) := by
  refine T.d_a_closed_lot.ok sc_a_closed_lot (fun vs H Q E h => ?_) (fun f cdv A outer s H vs Q E hG hr h => ?_)
  · obtain ⟨v, n, ws, rfl, _⟩ := h
    rfl
  · obtain ⟨v, n, ws, rfl, hB, hw, q⟩ := h
    refine ⟨_, (pss_cons (ps_set (i := 1) sc_a_closed_lot.nd rfl (Or.inl rfl) (pe_callO (ok_places_of T) hG (hr.mono (by decide)) (pa_cons (pv 0) pa_nil))) (pss_cons (ps_for PassesOwn.never rfl (pi_listK (K := K) (pv 1)) (pg_name (i := 2) sc_a_closed_lot.nd rfl (Or.inl rfl)) (pss_cons (ps_set (i := 3) sc_a_closed_lot.nd rfl (Or.inl rfl) (pe_callO (ok_places_from T) hG (hr.mono (by decide)) (pa_cons (pv 0) (pa_cons (pv 2) pa_nil)))) (pss_one (ps_if (pt_cmpR op_lt (pe_callB call_lenD (by rfl) T.b_len PySem.boot_len (pa_cons (pv 3) pa_nil)) (pe_callB (call_lenK (K := K)) (by rfl) T.b_len PySem.boot_len (pa_cons (pv 1) pa_nil)) (nomark _)) (pss_one (ps_ret (pe_callTy (call_tupleK (K := K)) (by rfl) T.b_tuple (by decide +kernel) (pa_cons (pe_callB (cr_sortDct (K := K) rfl hr.units) (by rfl) T.b_sorted (by decide +kernel) (pa_cons (pv 3) pa_nil)) pa_nil)))) pss_nil)))) (pss_one (ps_ret pe_non)))), ?_⟩
    refine ⟨_, rfl, v, n, ws, rfl, hB, fun x hx => (hw.wd x hx).2, hw.few, fun u H1 e1 hu => ?_⟩
    obtain ⟨a, rfl, hS⟩ := dp_strsL hu
    have few := hw.few
    have plen := places_len ws
    refine ⟨_, rfl, a, rfl, fo_lst hS (fun i σ H' => ∃ x2 x3, σ = [some v, some (.ref a), x2, x3] ∧ Ex H1 H' ∧ ∀ x ∈ (places ws).take i, shy ws x = false) ⟨none, none, rfl, Ex.refl _, fun x hx => (List.not_mem_nil hx).elim⟩ (fun i σ H' ⟨_, _, _, e, _⟩ => e) ?_ ?_⟩
    · rintro i x σ H' hi ⟨x2, x3, rfl, e, hn⟩
      obtain ⟨p, hp, rfl⟩ := str_at hi
      have pp : p ∈ plcs ws := places_mem.mp (List.mem_of_getElem? hp)
      refine ⟨_, rfl, _, rfl, v, n, ws, p, rfl, dp_ex (e1.trans e) hB, hw, pp, fun d H2 ks e2 nd hk hd => ?_⟩
      have hsk := rchL_ks pp nd hk
      have hlen : ks.length = (rchL ws p).length := by rw [← hsk, sortS_len]
      refine ⟨_, rfl, d, trues ks, rfl, hd, _, rfl, _, _, rfl, .inl (ex_l (e.trans e2) hS), _, _, rfl, rfl, _, rfl, ?_⟩
      rw [show decide (((trues ks).length : Int) < (((places ws).map V.str).length : Int)) = shy ws p from by
        unfold shy
        rw [trues_len, List.length_map, hlen]
        exact decide_eq_decide.mpr (by omega)]
      cases hs : shy ws p with
      | true =>
        refine iteT ⟨_, rfl, d, _, ks, rfl, .inl hd, trues_keys ks, ?_, fun z nz => ⟨z, _, rfl, .inl ⟨SqL.of upd_same, fun l nl => ?_⟩⟩⟩
        · have := (List.length_filter_le (rchB ws p) (places ws))
          have : ks.length ≤ (places ws).length := by rw [hlen]; exact this
          omega
        · refine q _ _ ((((e1.trans e).trans e2).trans (Ex.new nz)).trans (Ex.new nl)) ?_
          rw [closedD_some hn hp hs, hsk]
          exact dpT (SqT.of upd_same)
      | false =>
        refine iteF ⟨_, _, rfl, e.trans e2, fun x hx => ?_⟩
        rw [take_snoc hp] at hx
        rcases List.mem_append.mp hx with hx | hx
        · exact hn x hx
        · rw [List.mem_singleton.mp hx]
          exact hs
    · rintro σ H' ⟨x2, x3, rfl, e, hn⟩
      rw [List.length_map, List.take_length] at hn
      refine q _ _ (e1.trans e) ?_
      rw [closedD_none hn]
      exact .non
end

/-! ### what may go -/
section
variable {P : Program} {w : World} {K : PySem.W.Frag} {mg : Str → Option Value} {base : Heap}
theorem Ws.minus {ws lot : List Str} (h : Ws ws) : Ws (minus ws lot) := ⟨fun x hx => h.wd x (minus_mem.mp hx).1, Nat.le_trans (minus_len ..) h.few⟩
def sp_book_without (K : PySem.W.Frag) : Sp := fun vs H Q _ => ∃ (v u : V) (n : Nat) (ws lot : List Str), vs = [v, u] ∧ Dp K H v (bookD n ws) ∧ Dp K H u (strsT lot) ∧ Ws ws ∧ RetD K (bookD n (minus ws lot)) H Q
theorem ok_book_without (T : Tx K mg) : Ok P w K mg base CX0 1 "book_without" ["book", "windows"] (sp_book_without K) := by
  refine T.d_book_without.ok sc_book_without (fun vs H Q E h => ?_) (fun f cdv A outer s H vs Q E hG hr h => ?_)
  · obtain ⟨v, u, n, ws, lot, rfl, _⟩ := h
    rfl
  · obtain ⟨v, u, n, ws, lot, rfl, hB, hL, hw, q⟩ := h
    obtain ⟨a, t, rfl, h1, h2⟩ := dp_book hB
    obtain ⟨b, rfl, h3⟩ := dp_strsT hL
    refine ⟨_, (pss_one (ps_ret (pe_tup (pa_cons (pe_ix (ix_tupK (K := K)) (pv 0) pe_int (fun _ _ => rfl)) (pa_cons (pe_callTy (call_tupleK (K := K)) (by rfl) T.b_tuple (by decide +kernel) (pa_cons (pe_lc (own := [("window", 2)]) (g := gName 2) rfl sc_book_without.nd (pi_tupK (K := K) (pe_ix (ix_tupK (K := K)) (pv 0) pe_int (fun _ _ => rfl))) (blkOk_by (own := [("window", 2)]) (N := n_book_without) (sc := defScope s_book_without) (by decide +kernel)) (fun _ _ _ _ _ => pg_name (i := 2) sc_book_without.nd rfl (Or.inl rfl)) (fun _ _ _ _ _ => pts_one (pt_cmpR (op_notInK (K := K)) (pv 2) (pv 1) (by rfl))) (fun _ _ _ _ _ => (pv 2))) pa_nil)) pa_nil))))), ?_⟩
    have few := hw.few
    refine ⟨_, rfl, _, _, _, _, rfl, rfl, h1, atI_of (j := 0) rfl rfl, _, rfl, _, _, _, _, rfl, rfl, h1, atI_of (j := 1) rfl rfl, t, rfl, ⟨_, h2⟩, fun D np => ?_⟩
    refine lcs_tp h2 (fun x => !decide (x ∈ lot)) PyData.str np (by omega) (fun _ _ => rfl) (fun z H2 Y Z hz e hy hn => ?_) (fun H' acc e hp ha => ?_)
    · refine ⟨rfl, _, rfl, _, rfl, _, _, rfl, .inr (ex_t e h3), rfl, flat_strs _, _, rfl, ?_⟩
      show (fun b H4 => _) (!inV (V.str z) (lot.map V.str)) H2
      rw [inV_strs]
      cases hb : (!decide (z ∈ lot)) with
      | true => exact iteT ⟨_, rfl, hy hb _ _ (Ex.refl _) (.str z)⟩
      | false => exact iteF (hn hb _ (Ex.refl _))
    · have ha := strs_dpa ha
      subst ha
      refine ⟨_, _, rfl, .inl ⟨SqL.of hp, fun l nl => ⟨sz_of (by show 2 ≤ 1000000; decide), fun p np2 => q _ _ ((e.trans (Ex.new nl)).trans (Ex.new np2)) ?_⟩⟩⟩
      exact bookDp (SqT.of upd_same) (ex_t (Ex.new np2) (SqT.of upd_same))
theorem scB_minus_nil {ws : List Str} (h : ws = []) : scB ws = false := scB_false fun z => z.1 h
theorem scB_hang {ws : List Str} (h : ws ≠ []) (hh : Hang ws) : scB ws = true := scB_iff.mpr ⟨h, hh⟩
def sp_can_go (K : PySem.W.Frag) : Sp := fun vs H Q _ => ∃ (v u : V) (n : Nat) (ws lot : List Str), vs = [v, u] ∧ Dp K H v (bookD n ws) ∧ Dp K H u (strsT lot) ∧ Ws ws ∧ RetD K (.bool (scB (minus ws lot))) H Q
theorem ok_can_go (T : Tx K mg) : Ok P w K mg base CX0 5 "can_go" ["book", "windows"] (sp_can_go K) := by
  refine T.d_can_go.ok sc_can_go (fun vs H Q E h => ?_) (fun f cdv A outer s H vs Q E hG hr h => ?_)
  · obtain ⟨v, u, n, ws, lot, rfl, _⟩ := h
    rfl
  · obtain ⟨v, u, n, ws, lot, rfl, hB, hL, hw, q⟩ := h
    refine ⟨_, (pss_cons (ps_set (i := 2) sc_can_go.nd rfl (Or.inl rfl) (pe_callO (ok_book_without T) hG (hr.mono (by decide)) (pa_cons (pv 0) (pa_cons (pv 1) pa_nil)))) (pss_one (ps_ret (pe_and (pe_cmpR (op_neDK (K := K) hr.units) (pe_ix (ix_tupK (K := K)) (pv 2) pe_int (fun _ _ => rfl)) (pe_tup pa_nil) (nomark _)) (pe_one (pe_cmpR op_isN (pe_callO (ok_a_closed_lot T) hG (hr.mono (by decide)) (pa_cons (pv 2) pa_nil)) pe_non (nomark _))))))), ?_⟩
    refine ⟨_, rfl, _, rfl, v, u, n, ws, lot, rfl, hB, hL, hw, fun l H1 e1 hl => ?_⟩
    obtain ⟨a, t, rfl, h1, h2⟩ := dp_book hl
    refine ⟨_, rfl, _, _, _, _, rfl, rfl, h1, atI_of (j := 1) rfl rfl, sz_of (by show 0 ≤ 1000000; decide), fun p np => ?_⟩
    have wd : ∀ x ∈ minus ws lot, Word x := fun x hx => (hw.minus.wd x hx).1
    refine ⟨strsT (minus ws lot), .tuple [], dpT (ex_t (Ex.new np) h2), .tup (SqT.of upd_same) .nil, shapedT wd, rfl, ?_⟩
    rw [ne_nilT]
    by_cases hm : minus ws lot = []
    · rw [decide_eq_true hm]
      refine ⟨_, rfl, iteF (q _ _ (e1.trans (Ex.new np)) ?_)⟩
      rw [scB_minus_nil hm]
      exact .bl false
    · rw [decide_eq_false hm]
      refine ⟨_, rfl, iteT ⟨_, rfl, .ref a, n, minus ws lot, rfl, dp_ex (Ex.new np) hl, hw.minus, fun c H2 e2 hc => ⟨rfl, q _ _ ((e1.trans (Ex.new np)).trans e2) ?_⟩⟩⟩
      by_cases hh : Hang (minus ws lot)
      · rw [closedD_hang hh] at hc
        obtain rfl := dp_non hc
        rw [scB_hang hm hh]
        exact .bl true
      · obtain ⟨l, hl2⟩ := closedD_not hh
        rw [hl2] at hc
        obtain ⟨b, rfl, _⟩ := dp_strsT hc
        rw [scB_false fun z => hh z.2]
        exact .bl false
/-- where the book hangs -/
def sp_need_some_ring (K : PySem.W.Frag) : Sp := fun vs H Q _ => ∃ (v : V) (n : Nat) (ws : List Str), vs = [v] ∧ Dp K H v (bookD n ws) ∧ Bk n ws ∧ Hang ws ∧ ∀ H', Ex H H' → Q .non H'
theorem ok_need_some_ring (T : Tx K mg) : Ok P w K mg base CX0 5 "need_some_ring" ["book"] (sp_need_some_ring K) := by
  refine T.d_need_some_ring.ok sc_need_some_ring (fun vs H Q E h => ?_) (fun f cdv A outer s H vs Q E hG hr h => ?_)
  · obtain ⟨v, n, ws, rfl, _⟩ := h
    rfl
  · obtain ⟨v, n, ws, rfl, hB, B, hh, q⟩ := h
    refine ⟨_, (pss_cons (ps_expr (pe_callO (ok_need_book T) hG (hr.mono (by decide)) (pa_cons (pv 0) pa_nil))) (pss_one (ps_if (pt_cmpR op_notN (pe_callO (ok_a_closed_lot T) hG (hr.mono (by decide)) (pa_cons (pv 0) pa_nil)) pe_non (nomark _)) (pss_one ps_never) pss_nil))), ?_⟩
    refine ⟨_, rfl, v, n, ws, rfl, hB, B, fun H1 e1 => ⟨_, rfl, v, n, ws, rfl, dp_ex e1 hB, B.ws, fun c H2 e2 hc => ?_⟩⟩
    rw [closedD_hang hh] at hc
    obtain rfl := dp_non hc
    exact ⟨rfl, _, rfl, iteF (q _ (e1.trans e2))⟩
noncomputable def neededL (ws : List Str) : List Str := ws.filter fun x => !scB (minus ws [x])
def sp_needed (K : PySem.W.Frag) : Sp := fun vs H Q _ => ∃ (v : V) (n : Nat) (ws : List Str), vs = [v] ∧ Dp K H v (bookD n ws) ∧ Bk n ws ∧ Hang ws ∧ NewL (neededL ws) H Q
theorem ok_needed (T : Tx K mg) : Ok P w K mg base CX0 6 "needed" ["book"] (sp_needed K) := by
  refine T.d_needed.ok sc_needed (fun vs H Q E h => ?_) (fun f cdv A outer s H vs Q E hG hr h => ?_)
  · obtain ⟨v, n, ws, rfl, _⟩ := h
    rfl
  · obtain ⟨v, n, ws, rfl, hB, B, hh, q⟩ := h
    refine ⟨_, (pss_cons (ps_expr (pe_callO (ok_need_some_ring T) hG (hr.mono (by decide)) (pa_cons (pv 0) pa_nil))) (pss_one (ps_ret (pe_lc (own := [("window", 1)]) (g := gName 1) rfl sc_needed.nd (pi_tupK (K := K) (pe_ix (ix_tupK (K := K)) (pv 0) pe_int (fun _ _ => rfl))) (blkOk_by (own := [("window", 1)]) (N := n_needed) (sc := defScope s_needed) (by decide +kernel)) (fun _ _ _ _ _ => pg_name (i := 1) sc_needed.nd rfl (Or.inl rfl)) (fun _ _ _ _ _ => pts_one (pt_not (pt_val (pe_callO (ok_can_go T) hG (hr.mono (by decide)) (pa_cons (pv 0) (pa_cons (pe_tup (pa_cons (pv 1) pa_nil)) pa_nil)))))) (fun _ _ _ _ _ => (pv 1)))))), ?_⟩
    refine ⟨_, rfl, v, n, ws, rfl, hB, B, hh, fun H1 e1 => ?_⟩
    have hB1 := dp_ex e1 hB
    obtain ⟨a, t, rfl, h1, h2⟩ := dp_book hB1
    have few := B.few
    refine ⟨_, rfl, _, _, _, _, rfl, rfl, h1, atI_of (j := 1) rfl rfl, t, rfl, ⟨_, h2⟩, fun D np => ?_⟩
    refine lcs_tp h2 (fun x => !scB (minus ws [x])) PyData.str np (by omega) (fun _ _ => rfl) (fun z H2 Y Z hz e hy hn => ?_) (fun H' acc e hp ha => ?_)
    · refine ⟨rfl, _, rfl, _, rfl, sz_of (by show 1 ≤ 1000000; decide), fun p np2 => ⟨_, _, n, ws, [z], rfl, dp_ex (e.trans (Ex.new np2)) hB1, dpT (SqT.of upd_same), B.ws, fun c H3 e3 hc => ?_⟩⟩
      obtain rfl := dp_bl hc
      refine ⟨_, rfl, ?_⟩
      cases hb : scB (minus ws [z]) with
      | true => exact iteF (hn (by show (!scB (minus ws [z])) = false; rw [hb]; rfl) _ ((Ex.new np2).trans e3))
      | false => exact iteT ⟨_, rfl, hy (by show (!scB (minus ws [z])) = true; rw [hb]; rfl) _ _ ((Ex.new np2).trans e3) (.str z)⟩
    · have ha := strs_dpa ha
      subst ha
      exact q _ _ (e1.trans e) (fresh_back e1 np) hp
def sp_may_go (K : PySem.W.Frag) : Sp := fun vs H Q _ => ∃ (v u : V) (n : Nat) (ws lot : List Str), vs = [v, u] ∧ Dp K H v (bookD n ws) ∧ Dp K H u (strsT lot) ∧ Bk n ws ∧ Win n lot ∧ (∀ x ∈ lot, x ∈ ws) ∧ lot.length < ws.length ∧ RetD K (.bool (scB (minus ws lot))) H Q
theorem ok_may_go (T : Tx K mg) : Ok P w K mg base CX0 6 "may_go" ["book", "windows"] (sp_may_go K) := by
  refine T.d_may_go.ok sc_may_go (fun vs H Q E h => ?_) (fun f cdv A outer s H vs Q E hG hr h => ?_)
  · obtain ⟨v, u, n, ws, lot, rfl, _⟩ := h
    rfl
  · obtain ⟨v, u, n, ws, lot, rfl, hB, hL, B, hW, hin, hlt, q⟩ := h
    refine ⟨_, (pss_cons (ps_expr (pe_callO (ok_need_book T) hG (hr.mono (by decide)) (pa_cons (pv 0) pa_nil))) (pss_cons (ps_if (PW.pt (pw_or (pt_not (pt_val (pe_callO (ok_are_windows T) hG (hr.mono (by decide)) (pa_cons (pe_ix (ix_tupK (K := K)) (pv 0) pe_int (fun _ _ => rfl)) (pa_cons (pv 1) pa_nil))))) (pw_or1 (pt_not (pt_val (pe_callB (cr_allK (K := K) rfl) (by rfl) T.b_all (by decide +kernel) (pa_cons (pe_lc (own := [("window", 2)]) (g := gName 2) (tt := tYes) rfl sc_may_go.nd (pi_tupK (K := K) (pv 1)) (blkOk_by (own := [("window", 2)]) (N := n_may_go) (sc := defScope s_may_go) (by decide +kernel)) (fun _ _ _ _ _ => pg_name (i := 2) sc_may_go.nd rfl (Or.inl rfl)) (fun _ _ _ _ _ => pts_nil) (fun _ _ _ _ _ => (pe_cmpR (op_inK (K := K)) (pv 2) (pe_ix (ix_tupK (K := K)) (pv 0) pe_int (fun _ _ => rfl)) (by rfl)))) pa_nil))))))) (pss_one ps_never) pss_nil) (pss_cons (ps_if (pt_cmpR op_eq (pe_callB (call_lenK (K := K)) (by rfl) T.b_len PySem.boot_len (pa_cons (pv 1) pa_nil)) (pe_callB (call_lenK (K := K)) (by rfl) T.b_len PySem.boot_len (pa_cons (pe_ix (ix_tupK (K := K)) (pv 0) pe_int (fun _ _ => rfl)) pa_nil)) (nomark _)) (pss_one ps_never) pss_nil) (pss_one (ps_ret (pe_callO (ok_can_go T) hG (hr.mono (by decide)) (pa_cons (pv 0) (pa_cons (pv 1) pa_nil)))))))), ?_⟩
    refine ⟨_, rfl, v, n, ws, rfl, hB, B, fun H1 e1 => ?_⟩
    have hB1 := dp_ex e1 hB
    have hL1 := dp_ex e1 hL
    obtain ⟨a, t, rfl, h1, h2⟩ := dp_book hB1
    obtain ⟨b, rfl, h3⟩ := dp_strsT hL1
    have few := B.few
    have hi := B.hi
    refine ⟨_, rfl, _, _, _, _, rfl, rfl, h1, atI_of (j := 0) rfl rfl, _, rfl, n, b, lot, rfl, h3, hW, hi, by omega, fun c H2 e2 hc => ?_⟩
    obtain rfl := dp_bl hc
    refine ⟨true, rfl, iteF ⟨_, rfl, b, rfl, ⟨_, ex_t e2 h3⟩, fun D np => ?_⟩⟩
    refine lcs_tp (ex_t e2 h3) (fun _ => true) (fun x => PyData.bool (decide (x ∈ ws))) np (by omega) (fun _ _ => rfl) (fun z H2 Y Z hz e hy hn => ?_) (fun H' acc e hp ha => ?_)
    · refine ⟨rfl, lc_yes ⟨_, rfl, _, rfl, _, _, _, _, rfl, rfl, ex_t (e2.trans e) h1, atI_of (j := 1) rfl rfl, t, _, rfl, .inr (ex_t (e2.trans e) h2), rfl, flat_strs _, ?_⟩⟩
      show Y (.bl (inV (V.str z) (ws.map V.str))) H2
      rw [inV_strs]
      exact hy rfl _ _ (Ex.refl _) (.bl _)
    · rw [filter_true] at ha
      have ha := bls_all ha
      subst ha
      refine ⟨_, _, rfl, SqL.of hp, _, rfl, ?_⟩
      have et : ((lot.map fun x => decide (x ∈ ws)).all id) = true := by
        rw [List.all_map]
        exact List.all_eq_true.mpr fun x hx => decide_eq_true (hin x hx)
      rw [et]
      refine iteF ⟨_, rfl, _, _, rfl, .inr (ex_t (e2.trans e) h3), _, rfl, _, _, _, _, rfl, rfl, ex_t (e2.trans e) h1, atI_of (j := 1) rfl rfl, _, _, rfl, .inr (ex_t (e2.trans e) h2), rfl, _, rfl, ?_⟩
      rw [decide_eq_false (fun (z : V.int ((lot.map V.str).length : Int) = V.int ((ws.map V.str).length : Int)) => by
        have z := V.int.inj z
        rw [List.length_map, List.length_map] at z
        omega)]
      exact iteF ⟨_, rfl, _, rfl, _, _, n, ws, lot, rfl, dp_ex (e2.trans e) hB1, dp_ex (e2.trans e) hL1, B.ws, fun c H3 e3 hc => q _ _ (((e1.trans e2).trans e).trans e3) hc⟩
theorem restF_len (ws acc : List Str) (x : Str) : (restF ws acc x).length ≤ acc.length + 1 := by
  unfold restF
  split
  · rw [List.length_append]
    exact Nat.le_refl _
  · omega
theorem foldl_restF_len (ws : List Str) : ∀ (xs acc : List Str), (xs.foldl (restF ws) acc).length ≤ acc.length + xs.length
  | [], acc => Nat.le_refl _
  | x :: xs, acc => by
    have h1 := foldl_restF_len ws xs (restF ws acc x)
    have h2 := restF_len ws acc x
    rw [List.foldl_cons, List.length_cons]
    omega
def sp_rest (K : PySem.W.Frag) : Sp := fun vs H Q _ => ∃ (v : V) (n : Nat) (ws : List Str), vs = [v] ∧ Dp K H v (bookD n ws) ∧ Bk n ws ∧ Hang ws ∧ RetD K (strsT (restL ws)) H Q
theorem ok_rest (T : Tx K mg) : Ok P w K mg base CX0 6 "rest" ["book"] (sp_rest K) := by
  refine T.d_rest.ok sc_rest (fun vs H Q E h => ?_) (fun f cdv A outer s H vs Q E hG hr h => ?_)
  · obtain ⟨v, n, ws, rfl, _⟩ := h
    rfl
  · obtain ⟨v, n, ws, rfl, hB, B, hh, q⟩ := h
    refine ⟨_, (pss_cons (ps_expr (pe_callO (ok_need_some_ring T) hG (hr.mono (by decide)) (pa_cons (pv 0) pa_nil))) (pss_cons (ps_set (i := 1) sc_rest.nd rfl (Or.inl rfl) (pe_tup pa_nil)) (pss_cons (ps_for PassesOwn.never rfl (pi_tupK (K := K) (pe_ix (ix_tupK (K := K)) (pv 0) pe_int (fun _ _ => rfl))) (pg_name (i := 2) sc_rest.nd rfl (Or.inl rfl)) (pss_one (ps_if (pt_val (pe_callO (ok_can_go T) hG (hr.mono (by decide)) (pa_cons (pv 0) (pa_cons (pe_op (op_catAK (K := K)) (pv 1) (pe_tup (pa_cons (pv 2) pa_nil))) pa_nil)))) (pss_one (ps_set (i := 1) sc_rest.nd rfl (Or.inl rfl) (pe_op (op_catAK (K := K)) (pv 1) (pe_tup (pa_cons (pv 2) pa_nil))))) pss_nil))) (pss_one (ps_ret (pv 1)))))), ?_⟩
    refine ⟨_, rfl, v, n, ws, rfl, hB, B, hh, fun H1 e1 => ?_⟩
    have hB1 := dp_ex e1 hB
    obtain ⟨a, t, rfl, h1, h2⟩ := dp_book hB1
    have few := B.few
    refine ⟨sz_of (by show 0 ≤ 1000000; decide), fun F nF => ⟨_, rfl, _, _, _, _, rfl, rfl, ex_t (Ex.new nF) h1, atI_of (j := 1) rfl rfl, t, rfl, ?_⟩⟩
    refine fo_tp h2 (fun i σ H' => ∃ fa x2, σ = [some (.ref a), some (.ref fa), x2] ∧ Ex H1 H' ∧ SqT K H' fa (((ws.take i).foldl (restF ws) []).map V.str)) ⟨F, none, rfl, Ex.new nF, SqT.of upd_same⟩ (fun i σ H' ⟨_, _, _, e, _⟩ => e) ?_ ?_
    · rintro i x σ H' hi ⟨fa, x2, rfl, e, hS⟩
      obtain ⟨z, hz, rfl⟩ := str_at hi
      have hil : i < ws.length := (List.getElem?_eq_some_iff.mp hz).1
      have len := foldl_restF_len ws (ws.take i) []
      rw [List.length_take] at len
      have lz : ([] : List Str).length = 0 := rfl
      rw [take_snoc hz, List.foldl_append]
      generalize (ws.take i).foldl (restF ws) [] = acc at hS len
      have one : ∀ {H2 : Hp} {p : Addr}, H2 p = none → SqT K (upd H2 p (.tup [.str z])) p (([z] : List Str).map V.str) := fun _ => SqT.of upd_same
      refine ⟨_, rfl, _, rfl, _, rfl, sz_of (by show 1 ≤ 1000000; decide), fun p np => cat_strs (ex_t (Ex.new np) hS) (one np) (by show acc.length + 1 ≤ _; omega) fun c H2 e2 hc => ?_⟩
      have e3 := (Ex.new np).trans e2
      refine ⟨_, _, n, ws, acc ++ [z], rfl, dp_ex (e.trans e3) hB1, dpT hc, B.ws, fun b H3 e4 hb => ?_⟩
      obtain rfl := dp_bl hb
      refine ⟨_, rfl, ?_⟩
      show (fun b H1 => _) (scB (minus ws (acc ++ [z]))) H3
      have e5 := e3.trans e4
      cases hs : scB (minus ws (acc ++ [z])) with
      | true =>
        refine iteT ⟨_, rfl, _, rfl, sz_of (by show 1 ≤ 1000000; decide), fun p2 np2 => cat_strs (ex_t (e5.trans (Ex.new np2)) hS) (one np2) (by show acc.length + 1 ≤ _; omega) fun c H4 e6 hc => ?_⟩
        refine ⟨c, _, rfl, (e.trans e5).trans ((Ex.new np2).trans e6), ?_⟩
        show SqT K H4 c ((restF ws acc z).map V.str)
        unfold restF
        rw [if_pos hs]
        exact hc
      | false =>
        refine iteF ⟨fa, _, rfl, e.trans e5, ?_⟩
        show SqT K H3 fa ((restF ws acc z).map V.str)
        unfold restF
        rw [if_neg (by rw [hs]; exact Bool.false_ne_true)]
        exact ex_t e5 hS
    · rintro σ H' ⟨fa, x2, rfl, e, hS⟩
      rw [List.length_map, List.take_length] at hS
      exact ⟨_, rfl, q _ _ (e1.trans e) (dpT hS)⟩
end

/-! ### what the law draws -/
section
variable {P : Program} {w : World} {K : PySem.W.Frag} {mg : Str → Option Value} {base : Heap}
def sp_law_well (K : PySem.W.Frag) : Sp := fun vs H Q _ => ∃ (a : Addr) (ns : List Int) (k : Nat), vs = [.ref a, .int k] ∧ SqL K H a (ns.map V.int) ∧ ns.length ≤ 1000 ∧ k ≤ 1000 ∧ ∀ w G H', Ex H G → Wt w 0 G H' → Q (.ref w) H'
theorem ok_law_well (T : Tx K mg) : Ok P w K mg base CX0 1 "_law_well" ["script", "k"] (sp_law_well K) := by
  refine T.d_law_well.ok sc_law_well (fun vs H Q E h => ?_) (fun f cdv A outer s H vs Q E hG hr h => ?_)
  · obtain ⟨a, ns, k, rfl, _⟩ := h
    rfl
  · obtain ⟨a, ns, k, rfl, hS, hl, hk, q⟩ := h
    refine ⟨_, (pss_cons (ps_set (i := 2) sc_law_well.nd rfl (Or.inl rfl) pe_int) (pss_cons (ps_for PassesOwn.never rfl (pi_enumK (K := K) T.b_enumerate (pa_cons (pv 0) pa_nil)) (pg_tup rfl (pgs_cons (pg_name (i := 3) sc_law_well.nd rfl (Or.inl rfl)) (pgs_cons (pg_name (i := 4) sc_law_well.nd rfl (Or.inl rfl)) pgs_nil))) (pss_one (ps_set (i := 2) sc_law_well.nd rfl (Or.inl rfl) (pe_op op_modN (pe_callTy call_int1 (by rfl) T.b_int (by decide +kernel) (pa_cons (pe_op op_add (pe_op op_add (pe_op op_mul (pv 2) pe_int) (pe_op op_mul (pe_callTy call_int1 (by rfl) T.b_int (by decide +kernel) (pa_cons (pv 4) pa_nil)) (pe_op op_add (pe_op op_mul pe_int (pv 3)) pe_int))) pe_int) pa_nil)) (pe_op op_add (pe_op op_pow pe_int pe_int) pe_int))))) (pss_cons (ps_set (i := 4) sc_law_well.nd rfl (Or.inl rfl) (pe_ifExp (pt_cmpR op_lt (pv 1) (pe_callB (call_lenK (K := K)) (by rfl) T.b_len PySem.boot_len (pa_cons (pv 0) pa_nil)) (nomark _)) (pe_ix (ix_listK (K := K)) (pv 0) (pv 1) (fun _ _ => rfl)) (pe_op op_mul (pv 2) (pe_op op_add (pv 1) pe_int)))) (pss_cons (ps_set (i := 5) sc_law_well.nd rfl (Or.inl rfl) (pe_ifExp (pt_cmpR op_lt (pv 1) (pe_callB (call_lenK (K := K)) (by rfl) T.b_len PySem.boot_len (pa_cons (pv 0) pa_nil)) (nomark _)) (pe_callB (call_max2 rfl) (by rfl) T.b_max (by decide +kernel) (pa_cons pe_int (pa_cons (pe_op op_sub (pv 4) (pe_op op_pow pe_int pe_int)) pa_nil))) pe_int)) (pss_one (ps_ret (pe_lst (pa_cons (pv 5) (pa_cons (pe_op op_modN (pe_callTy call_int1 (by rfl) T.b_int (by decide +kernel) (pa_cons (pe_op op_add (pe_op op_add (pv 2) (pe_op op_mul pe_int (pv 1))) (pe_callB call_abs (by rfl) T.b_abs (by decide +kernel) (pa_cons (pv 4) pa_nil))) pa_nil)) (pe_op op_add (pe_op op_pow pe_int pe_int) pe_int)) (pa_cons pe_int pa_nil)))))))))), ?_⟩
    have lmap : (ns.map V.int).length = ns.length := List.length_map ..
    have m27 : (10 : Int) ^ (27 : Int).toNat + 103 ≠ 0 := by decide
    have m30 : (10 : Int) ^ (30 : Int).toNat + 57 ≠ 0 := by decide
    have ten : CPow 10 27 ∧ CPow 10 18 ∧ CPow 10 30 := by refine ⟨⟨?_, ?_, ?_⟩, ⟨?_, ?_, ?_⟩, ⟨?_, ?_, ?_⟩⟩ <;> decide
    refine ⟨_, rfl, a, _, rfl, fo_enum hS (fun i σ H' => ∃ (t : Int) (x3 x4 x5 : Option V), σ = [some (.ref a), some (.int k), some (.int t), x3, x4, x5] ∧ Ex H H') ⟨4099, _, _, _, rfl, Ex.refl _⟩ (fun i σ H' ⟨_, _, _, _, _, e⟩ => e) ?_ ?_⟩
    · rintro i y T σ H1 H2 hi ⟨t, x3, x4, x5, rfl, e⟩ e2 hT
      obtain ⟨n, hn, rfl⟩ : ∃ n, ns[i]? = some n ∧ y = .int n := by
        rw [List.getElem?_map] at hi
        cases hq : ns[i]? with
        | none => rw [hq] at hi; cases hi
        | some n => rw [hq] at hi; exact ⟨n, rfl, (Option.some.inj hi).symm⟩
      have hil : i < ns.length := (List.getElem?_eq_some_iff.mp hn).1
      refine ⟨T, _, rfl, SqT.of hT, rfl, _, _, rfl, _, _, rfl, rfl, ?_⟩
      refine ⟨_, rfl, t, 31, rfl, rfl, .inr ⟨by decide, by decide⟩, _, rfl, .inl ⟨n, rfl, _, rfl, 2, i, rfl, rfl, .inl ⟨by decide, by decide⟩, 2 * i, 5, rfl, rfl, n, 2 * i + 5, rfl, rfl, .inr ⟨by omega, by omega⟩, _, _, rfl, rfl, _, 17, rfl, rfl, .inl ⟨_, rfl, 10, 27, rfl, rfl, ten.1, _, 103, rfl, rfl, _, _, rfl, rfl, m27, ?_⟩⟩⟩
      exact ⟨_, _, _, _, rfl, e.trans e2⟩
    · rintro σ H1 ⟨t, x3, x4, x5, rfl, e⟩
      have hS1 := ex_l e hS
      refine ⟨_, rfl, _, rfl, _, _, rfl, .inl hS1, _, _, rfl, rfl, _, rfl, ?_⟩
      have fin : ∀ (g c : Int) (z : Addr), H1 z = none → Q (.ref z) (upd H1 z (.lst [.int g, .int c, .int 0])) := fun g c z nz => q z H1 _ e ⟨Ex.new nz, nz, g, c, 0, Nat.le_refl _, upd_same⟩
      by_cases hkk : (k : Int) < ((ns.map V.int).length : Int)
      · rw [decide_eq_true hkk]
        rw [lmap] at hkk
        have hkn : k < ns.length := by omega
        refine iteT ⟨_, rfl, _, rfl, _, _, _, _, rfl, rfl, hS1, atI_of (j := k) rfl (get_map hkn), _, rfl, _, rfl, _, _, rfl, .inl hS1, _, _, rfl, rfl, _, rfl, ?_⟩
        rw [decide_eq_true (show (k : Int) < ((ns.map V.int).length : Int) by rw [lmap]; omega)]
        refine iteT ⟨_, rfl, 10, 18, rfl, rfl, ten.2.1, _, _, rfl, rfl, 0, _, rfl, ?_⟩
        refine ⟨_, rfl, _, rfl, _, rfl, 7919, k, rfl, rfl, .inl ⟨by decide, by decide⟩, t, _, rfl, rfl, _, rfl, _, rfl, _, _, rfl, rfl, .inl ⟨_, rfl, 10, 30, rfl, rfl, ten.2.2, _, 57, rfl, rfl, _, _, rfl, rfl, m30, sz_of (by show 3 ≤ 1000000; decide), fun z nz => fin _ _ z nz⟩⟩
      · rw [decide_eq_false hkk]
        refine iteF ⟨_, rfl, _, rfl, k, 3, rfl, rfl, t, _, rfl, rfl, .inr ⟨by omega, by omega⟩, _, rfl, _, rfl, _, _, rfl, .inl hS1, _, _, rfl, rfl, _, rfl, ?_⟩
        rw [decide_eq_false hkk]
        refine iteF ?_
        refine ⟨_, rfl, _, rfl, _, rfl, 7919, k, rfl, rfl, .inl ⟨by decide, by decide⟩, t, _, rfl, rfl, _, rfl, _, rfl, _, _, rfl, rfl, .inl ⟨_, rfl, 10, 30, rfl, rfl, ten.2.2, _, 57, rfl, rfl, _, _, rfl, rfl, m30, sz_of (by show 3 ≤ 1000000; decide), fun z nz => fin _ _ z nz⟩⟩
def sp_law_pick : Sp := fun vs H Q _ => ∃ (w : Addr) (n c : Nat) (G : Hp), vs = [.ref w, .int n] ∧ 1 ≤ n ∧ n ≤ 100000 ∧ c ≤ 1000000 ∧ Wt w c G H ∧ ∀ (i : Nat) H', i < n → Wt w (c + 1) G H' → Q (.int i) H'
theorem nat_mod {i n : Int} (h : 1 ≤ n) : ∃ j : Nat, i.fmod n = (j : Int) ∧ (j : Int) < n := by
  have h1 : 0 ≤ i.fmod n := Int.fmod_nonneg_of_pos _ (by omega)
  have h2 : i.fmod n < n := Int.fmod_lt_of_pos _ (by omega)
  exact ⟨(i.fmod n).toNat, by omega, by omega⟩
theorem q_mod {n : Nat} {H : Hp} {Q : VK} (hn : 1 ≤ n) (q : ∀ j : Nat, j < n → Q (.int j) H) (z : Int) : Q (.int (z.fmod n)) H := by
  obtain ⟨j, hj, hj2⟩ := nat_mod (i := z) (n := n) (by omega)
  rw [hj]
  exact q j (by omega)
theorem ok_law_pick (T : Tx K mg) : Ok P w K mg base CX0 1 "_law_pick" ["well", "ways"] sp_law_pick := by
  refine T.d_law_pick.ok sc_law_pick (fun vs H Q E h => ?_) (fun f cdv A outer s H vs Q E hG hr h => ?_)
  · obtain ⟨w, n, c, G, rfl, _⟩ := h
    rfl
  · obtain ⟨w, n, c, G, rfl, hn, hn2, hc, W, q⟩ := h
    refine ⟨_, (pss_cons (ps_if (pt_cmpR op_gt (pe_ix (ix_listK (K := K)) (pv 0) pe_int (fun _ _ => rfl)) pe_int (nomark _)) (pss_cons (ps_set (i := 2) sc_law_pick.nd rfl (Or.inl rfl) (pe_op op_modN (pe_callTy call_int1 (by rfl) T.b_int (by decide +kernel) (pa_cons (pe_ix (ix_listK (K := K)) (pv 0) pe_int (fun _ _ => rfl)) pa_nil)) (pv 1))) (pss_cons (ps_asg (pe_op op_fdivN (pe_ix (ix_listK (K := K)) (pv 0) pe_int (fun _ _ => rfl)) (pv 1)) (pg_sub (pv 0) pe_int set_list)) (pss_one (ps_ret (pv 2))))) pss_nil) (pss_cons (ps_asg (pe_op op_add (pe_ix (ix_listK (K := K)) (pv 0) pe_int (fun _ _ => rfl)) pe_int) (pg_sub (pv 0) pe_int set_list)) (pss_cons (ps_set (i := 3) sc_law_pick.nd rfl (Or.inl rfl) (pe_op op_modN (pe_callTy call_int1 (by rfl) T.b_int (by decide +kernel) (pa_cons (pe_op op_add (pe_op op_add (pe_ix (ix_listK (K := K)) (pv 0) pe_int (fun _ _ => rfl)) (pe_op op_mul (pe_op op_mul pe_int (pe_ix (ix_listK (K := K)) (pv 0) pe_int (fun _ _ => rfl))) (pe_ix (ix_listK (K := K)) (pv 0) pe_int (fun _ _ => rfl)))) pe_int) pa_nil)) (pe_op op_add (pe_op op_pow pe_int pe_int) pe_int))) (pss_cons (ps_set (i := 3) sc_law_pick.nd rfl (Or.inl rfl) (pe_op op_modN (pe_callTy call_int1 (by rfl) T.b_int (by decide +kernel) (pa_cons (pe_op op_add (pe_op op_mulW (pe_op op_mulW (pv 3) (pv 3)) (pv 3)) (pe_op op_mul pe_int (pe_ix (ix_listK (K := K)) (pv 0) pe_int (fun _ _ => rfl)))) pa_nil)) (pe_op op_add (pe_op op_pow pe_int pe_int) pe_int))) (pss_one (ps_ret (pe_op op_modN (pe_callTy call_int1 (by rfl) T.b_int (by decide +kernel) (pa_cons (pe_op op_fdivN (pv 3) pe_int) pa_nil)) (pv 1)))))))), ?_⟩
    obtain ⟨g, m, k, hk, hw⟩ := W.h
    have n0 : (n : Int) ≠ 0 := by omega
    have ten : CPow 10 29 ∧ CPow 10 30 := by refine ⟨⟨?_, ?_, ?_⟩, ⟨?_, ?_, ?_⟩⟩ <;> decide
    have m29 : (10 : Int) ^ (29 : Int).toNat + 319 ≠ 0 := by decide
    have m30 : (10 : Int) ^ (30 : Int).toNat + 57 ≠ 0 := by decide
    have hS : SqL K H w [.int g, .int m, .int k] := SqL.of hw
    refine ⟨_, rfl, w, _, 0, _, rfl, rfl, hS, atI_of (j := 0) rfl rfl, _, _, rfl, rfl, _, rfl, ?_⟩
    by_cases hg : g > 0
    · rw [decide_eq_true hg]
      refine iteT ⟨_, rfl, w, _, 0, _, rfl, rfl, hS, atI_of (j := 0) rfl rfl, .inl ⟨g, rfl, _, rfl, g, n, rfl, rfl, n0, ?_⟩⟩
      refine ⟨_, rfl, w, _, 0, _, rfl, rfl, hS, atI_of (j := 0) rfl rfl, _, rfl, g, n, rfl, rfl, ⟨n0, by omega⟩, _, rfl, w, _, 0, 0, rfl, rfl, hw, rfl, _, rfl, ?_⟩
      exact q_mod hn (fun j hj => q j _ hj (W.set (by omega))) g
    · rw [decide_eq_false hg]
      refine iteF ?_
      have hS1 : SqL K (upd H w (.lst [.int g, .int m, .int ((k : Int) + 1)])) w [.int g, .int m, .int ((k : Int) + 1)] := SqL.of upd_same
      have W1 : Wt w (c + 1) G (upd H w (.lst [.int g, .int m, .int ((k : Int) + 1)])) := W.set (k := k + 1) (by omega)
      refine ⟨_, rfl, w, _, 2, _, rfl, rfl, hS, atI_of (j := 2) rfl rfl, k, 1, rfl, rfl, _, rfl, w, _, 2, 2, rfl, rfl, hw, rfl, ?_⟩
      refine ⟨_, rfl, w, _, 1, _, rfl, rfl, hS1, atI_of (j := 1) rfl rfl, _, rfl, w, _, 2, _, rfl, rfl, hS1, atI_of (j := 2) rfl rfl, 97531, (k : Int) + 1, rfl, rfl, .inl ⟨by decide, by decide⟩,
        _, rfl, w, _, 2, _, rfl, rfl, hS1, atI_of (j := 2) rfl rfl, _, (k : Int) + 1, rfl, rfl, .inr ⟨by omega, by omega⟩, m, _, rfl, rfl, _, 13, rfl, rfl, .inl ⟨_, rfl, 10, 29, rfl, rfl, ten.1, _, 319, rfl, rfl, _, _, rfl, rfl, m29, ?_⟩⟩
      have hx0 := Int.fmod_nonneg_of_pos (m + 97531 * ((k : Int) + 1) * ((k : Int) + 1) + 13) (show (0 : Int) < 10 ^ (29 : Int).toNat + 319 by decide)
      have hx1 := Int.fmod_lt_of_pos (m + 97531 * ((k : Int) + 1) * ((k : Int) + 1) + 13) (show (0 : Int) < 10 ^ (29 : Int).toNat + 319 by decide)
      have hx : ((m + 97531 * ((k : Int) + 1) * ((k : Int) + 1) + 13).fmod (10 ^ (29 : Int).toNat + 319)).natAbs < 2 ^ 97 := by
        have e : (10 : Int) ^ (29 : Int).toNat + 319 < 2 ^ 97 := by decide
        omega
      have hxx : ((m + 97531 * ((k : Int) + 1) * ((k : Int) + 1) + 13).fmod (10 ^ (29 : Int).toNat + 319) * (m + 97531 * ((k : Int) + 1) * ((k : Int) + 1) + 13).fmod (10 ^ (29 : Int).toNat + 319)).natAbs < 2 ^ 194 := by
        rw [Int.natAbs_mul]
        exact Nat.lt_of_lt_of_le (Nat.mul_lt_mul'' hx hx) (by decide)
      refine ⟨_, rfl, _, rfl, _, _, rfl, rfl, wide_mul hx hx (by decide) (by decide) (by decide), _, rfl, _, _, rfl, rfl, wide_mul hxx hx (by decide) (by decide) (by decide), _, rfl, w, _, 2, _, rfl, rfl, hS1, atI_of (j := 2) rfl rfl, 271, (k : Int) + 1, rfl, rfl, .inl ⟨by decide, by decide⟩, _, _, rfl, rfl,
        .inl ⟨_, rfl, 10, 30, rfl, rfl, ten.2, _, 57, rfl, rfl, _, _, rfl, rfl, m30, ?_⟩⟩
      refine ⟨_, rfl, _, 100003, rfl, rfl, ⟨by decide, by decide⟩, .inl ⟨_, rfl, _, rfl, _, n, rfl, rfl, n0, ?_⟩⟩
      exact q_mod hn (fun j hj => q j _ hj W1) _
end

/-! ### the law's own webs -/
section
variable {P : Program} {w : World} {K : PySem.W.Frag} {mg : Str → Option Value} {base : Heap}
def sp_law_one_of (K : PySem.W.Frag) : Sp := fun vs H Q _ => ∃ (w : Addr) (x : V) (n c : Nat) (G : Hp), vs = [.ref w, x] ∧ 1 ≤ n ∧ n ≤ 100000 ∧ c ≤ 1000000 ∧ Wt w c G H ∧
  ((∃ z : Str, x = .str z ∧ z.length = n ∧ ∀ c0 H', c0 ∈ sg z → Wt w (c + 1) G H' → Q (.str (tx [c0])) H') ∨ (∃ a xs, x = .ref a ∧ Sq K G a xs ∧ xs.length = n ∧ ∀ v H', v ∈ xs → Wt w (c + 1) G H' → Q v H'))
theorem sq_up {G H : Hp} {a : Addr} {xs : List V} (e : Ex G H) (h : Sq K G a xs) : Sq K H a xs := ex_sq e h
theorem ok_law_one_of (T : Tx K mg) : Ok P w K mg base CX0 2 "_law_one_of" ["well", "things"] (sp_law_one_of K) := by
  refine T.d_law_one_of.ok sc_law_one_of (fun vs H Q E h => ?_) (fun f cdv A outer s H vs Q E hG hr h => ?_)
  · obtain ⟨w, x, n, c, G, rfl, _⟩ := h
    rfl
  · obtain ⟨w, x, n, c, G, rfl, hn, hn2, hc, W, q⟩ := h
    refine ⟨_, (pss_one (ps_ret (pe_ix (ix_seqK (K := K)) (pv 1) (pe_callO (ok_law_pick T) hG (hr.mono (by decide)) (pa_cons (pv 0) (pa_cons (pe_callB (call_lenAK (K := K)) (by rfl) T.b_len PySem.boot_len (pa_cons (pv 1) pa_nil)) pa_nil))) (fun _ _ => rfl)))), ?_⟩
    refine ⟨_, rfl, _, rfl, _, rfl, x, n, rfl, ?_, w, n, c, G, rfl, hn, hn2, hc, W, fun i H' hi W' => ?_⟩
    · rcases q with ⟨z, rfl, hz, _⟩ | ⟨a, xs, rfl, hS, hl, _⟩
      · exact ⟨by rw [hz]; exact sz_of (by omega), hz.symm⟩
      · rcases ex_sq W.e hS with h | h
        · exact .inl ⟨xs, h, hl.symm⟩
        · exact .inr ⟨xs, h, hl.symm⟩
    · rcases q with ⟨z, rfl, hz, q⟩ | ⟨a, xs, rfl, hS, hl, q⟩
      · have hi2 : i < (sg z).length := by rw [← len_sg, hz]; exact hi
        exact .inr (.inr ⟨z, i, (sg z)[i], rfl, rfl, by rw [hz]; exact sz_of (by omega), atI_of rfl (List.getElem?_eq_getElem hi2), q _ _ (List.getElem_mem hi2) W'⟩)
      · have hi2 : i < xs.length := by omega
        have hat : atI xs (i : Int) = some xs[i] := atI_of rfl (List.getElem?_eq_getElem hi2)
        rcases ex_sq W'.e hS with h | h
        · exact .inl ⟨a, xs, i, xs[i], rfl, rfl, h, hat, q _ _ (List.getElem_mem hi2) W'⟩
        · exact .inr (.inl ⟨a, xs, i, xs[i], rfl, rfl, h, hat, q _ _ (List.getElem_mem hi2) W'⟩)
def sp_law_without (K : PySem.W.Frag) : Sp := fun vs H Q _ => ∃ (a b : Addr) (ws lot : List Str), vs = [.ref a, .ref b] ∧ Sq K H a (ws.map V.str) ∧ Sq K H b (lot.map V.str) ∧ ws.length ≤ 1000000 ∧ NewL (minus ws lot) H Q
theorem ok_law_without (T : Tx K mg) : Ok P w K mg base CX0 1 "_law_without" ["windows", "lot"] (sp_law_without K) := by
  refine T.d_law_without.ok sc_law_without (fun vs H Q E h => ?_) (fun f cdv A outer s H vs Q E hG hr h => ?_)
  · obtain ⟨a, b, ws, lot, rfl, _⟩ := h
    rfl
  · obtain ⟨a, b, ws, lot, rfl, h1, h2, hl, q⟩ := h
    refine ⟨_, (pss_one (ps_ret (pe_lc (own := [("window", 2)]) (g := gName 2) rfl sc_law_without.nd (pi_seqK (K := K) (pv 0)) (blkOk_by (own := [("window", 2)]) (N := n_law_without) (sc := defScope s_law_without) (by decide +kernel)) (fun _ _ _ _ _ => pg_name (i := 2) sc_law_without.nd rfl (Or.inl rfl)) (fun _ _ _ _ _ => pts_one (pt_cmpR (op_notInK (K := K)) (pv 2) (pv 1) (by rfl))) (fun _ _ _ _ _ => (pv 2))))), ?_⟩
    refine ⟨_, rfl, a, rfl, lcs_sq h1 (fun x => !decide (x ∈ lot)) PyData.str hl (fun _ _ => rfl) (fun z H2 Y Z hz e hy hn => ?_) (fun D np H' acc e hp ha => ?_)⟩
    · refine ⟨rfl, _, rfl, _, rfl, _, _, rfl, ex_sq e h2, rfl, flat_strs _, _, rfl, ?_⟩
      show (fun b H4 => _) (!inV (V.str z) (lot.map V.str)) H2
      rw [inV_strs]
      cases hb : (!decide (z ∈ lot)) with
      | true => exact iteT ⟨_, rfl, hy hb _ _ (Ex.refl _) (.str z)⟩
      | false => exact iteF (hn hb _ (Ex.refl _))
    · have ha := strs_dpa ha
      subst ha
      exact q _ _ e np hp
def sp_law_tally (K : PySem.W.Frag) : Sp := fun vs H Q _ => ∃ (a : Addr) (xs : List Str), vs = [.ref a] ∧ SqL K H a (xs.map V.str) ∧ xs.length ≤ 100000 ∧ ∀ d H', Ex H H' → H d = none → H' d = some (.dK (tkv xs)) → Q (.ref d) H'
theorem ok_law_tally (T : Tx K mg) : Ok P w K mg base CX0 1 "_law_tally" ["steps"] (sp_law_tally K) := by
  refine T.d_law_tally.ok sc_law_tally (fun vs H Q E h => ?_) (fun f cdv A outer s H vs Q E hG hr h => ?_)
  · obtain ⟨a, xs, rfl, _⟩ := h
    rfl
  · obtain ⟨a, xs, rfl, hS, hl, q⟩ := h
    refine ⟨_, (pss_cons (ps_set (i := 1) sc_law_tally.nd rfl (Or.inl rfl) pe_dnewK) (pss_cons (ps_for PassesOwn.never rfl (pi_listK (K := K) (pv 0)) (pg_name (i := 2) sc_law_tally.nd rfl (Or.inl rfl)) (pss_one (ps_dput (hu_of hr) (pv 1) (pv 2) (pe_op op_add (pe_get2 (hu_of hr) (pv 1) (pv 2) pe_int) pe_int) rfl))) (pss_one (ps_ret (pv 1))))), ?_⟩
    intro d nd
    refine ⟨_, rfl, a, rfl, fo_lst hS (fun i σ H' => ∃ x2, σ = [some (.ref a), some (.ref d), x2] ∧ Ex H H' ∧ H' d = some (.dK (tkv (xs.take i)))) ⟨none, rfl, Ex.new nd, upd_same⟩ (fun i σ H' ⟨_, _, e, _⟩ => e) ?_ ?_⟩
    · rintro i x σ H' hi ⟨x2, rfl, e, hd⟩
      obtain ⟨z, hz, rfl⟩ := str_at hi
      have hil : i < xs.length := (List.getElem?_eq_some_iff.mp hz).1
      have kl : (tkv (xs.take i)).length ≤ 100000 := by
        unfold tkv
        rw [fkv_len]
        have := ded_le (xs.take i)
        rw [List.length_take] at this
        omega
      refine ⟨_, rfl, d, rfl, .inl ⟨_, .inl hd⟩, _, rfl, _, DGet.k (k := kS z) hd, ?_⟩
      rw [tkv_get]
      refine ⟨_, 1, rfl, rfl, _, rfl, _, rfl, d, _, rfl, DPut.k (k := kS z) hd (sz_lt (by omega)), ?_⟩
      refine ⟨_, rfl, Ex.mut e nd, ?_⟩
      show upd H' d (.dK (putK (tkv (xs.take i)) (kS z) (.int ((cnt (xs.take i) z : Int) + 1)))) d = _
      rw [upd_same, tkv_snoc, take_snoc hz]
    · rintro σ H' ⟨x2, rfl, e, hd⟩
      rw [List.length_map, take_len] at hd
      exact ⟨_, rfl, q d H' e nd hd⟩
def sp_law_round (K : PySem.W.Frag) : Sp := fun vs H Q _ => ∃ (n : Nat) (r : Str), vs = [.int n, .str r] ∧ 1 ≤ r.length ∧ r.length ≤ 100000 ∧ n ≤ 1000 ∧ NewL (rnd n r) H Q
theorem ok_law_round (T : Tx K mg) : Ok P w K mg base CX0 1 "_law_round" ["size", "ring"] (sp_law_round K) := by
  refine T.d_law_round.ok sc_law_round (fun vs H Q E h => ?_) (fun f cdv A outer s H vs Q E hG hr h => ?_)
  · obtain ⟨n, r, rfl, _⟩ := h
    rfl
  · obtain ⟨n, r, rfl, h1, h2, hn, q⟩ := h
    refine ⟨_, (pss_cons (ps_set (i := 2) sc_law_round.nd rfl (Or.inr rfl) (pv 1)) (pss_cons (ps_while PassesOwn.never (pt_cmpR op_lt (pe_callB call_len_str (by rfl) T.b_len PySem.boot_len (pa_cons (pv 2) pa_nil)) (pe_op op_add (pe_callB call_len_str (by rfl) T.b_len PySem.boot_len (pa_cons (pv 1) pa_nil)) (pv 0)) (nomark _)) (pss_one (ps_set (i := 2) sc_law_round.nd rfl (Or.inr rfl) (pe_op op_add_str (pv 2) (pv 1))))) (pss_one (ps_ret (pe_lc (own := [("at", 3)]) (g := gName 3) (tt := tYes) rfl sc_law_round.nd (pi_range1 (by rfl) T.b_range (pa_cons (pe_callB call_len_str (by rfl) T.b_len PySem.boot_len (pa_cons (pv 1) pa_nil)) pa_nil)) (blkOk_by (own := [("at", 3)]) (N := n_law_round) (sc := defScope s_law_round) (by decide +kernel)) (fun _ _ _ _ _ => pg_name (i := 3) sc_law_round.nd rfl (Or.inl rfl)) (fun _ _ _ _ _ => pts_nil) (fun _ _ _ _ _ => (pe_slice sl_str (pv 2) (po_some (pv 3)) (po_some (pe_op op_add (pv 3) (pv 0)))))))))), ?_⟩
    have big : 1000000 < sizeLine := by decide
    refine ⟨_, rfl, ?_⟩
    refine ⟨fun m σ H' => H' = H ∧ ∃ L k, σ = [some (.int n), some (.str r), some (.str L), none] ∧ sg L = rep k (sg r) ∧ L.length ≤ r.length + n + r.length ∧ m = r.length + n - L.length, ⟨_, rfl, r, 1, rfl, by unfold rep; simp, by omega, rfl⟩, ?_⟩
    rintro m σ H' ⟨rfl, L, k, rfl, hL, hb, rfl⟩
    have hk : L.length = k * r.length := by
      rw [len_sg, hL, rep_len]
      rfl
    refine ⟨_, rfl, L, rfl, by omega, _, rfl, r, rfl, by omega, _, rfl, _, _, rfl, rfl, _, _, rfl, rfl, _, rfl, ?_⟩
    by_cases hlt : (L.length : Int) < (r.length : Int) + (n : Int)
    · rw [decide_eq_true hlt]
      refine iteT ⟨fun σ' H'' => H'' = H' ∧ ∃ L' k', σ' = [some (.int n), some (.str r), some (.str L'), none] ∧ sg L' = rep k' (sg r) ∧ L'.length ≤ r.length + n + r.length ∧ r.length + n - L'.length < r.length + n - L.length, fun σ' H'' ⟨e, L', k', e1, e2, e3, e4⟩ => ⟨_, e4, e, L', k', e1, e2, e3, rfl⟩, ?_⟩
      have la := strLen_app L r
      refine ⟨_, rfl, _, rfl, _, _, rfl, rfl, by omega, rfl, L ++ r, k + 1, rfl, ?_, by omega, by omega⟩
      rw [sg_app, hL, rep_snoc]
    · rw [decide_eq_false hlt]
      refine iteF ?_
      have hcap : r.length + n ≤ k * r.length := by omega
      refine ⟨_, rfl, r, rfl, by omega, _, rfl, by omega, by omega, fun D np => ?_⟩
      refine lc_rng K (fun _ => true) (fun i => .str (tx (cyc (sg r) i n))) np (by omega) (fun _ _ => rfl) (fun i x H2 Y Z hi e it hy _ => ?_) (fun H2 acc e hp hd => ?_)
      · subst it
        have hi2 : i < r.length := by omega
        refine ⟨rfl, lc_yes ?_⟩
        have cut : cutS L (some (i : Int)) (some ((i + n : Nat) : Int)) = tx (cyc (sg r) i n) := by
          rw [cut_at _ _ _ (by omega), hL, Nat.min_eq_left (by omega), show i + n - i = n by omega, rep_cut (by show i + n ≤ k * r.length; omega)]
        have z : rSlS (.str L) (some (0 + (i : Int))) (some (0 + (i : Int) + (n : Int))) H2 Y := by
          refine ⟨L, rfl, by omega, ?_⟩
          rw [show (0 : Int) + (i : Int) + (n : Int) = ((i + n : Nat) : Int) by omega, show (0 : Int) + (i : Int) = (i : Int) by omega, cut]
          exact hy rfl _ _ (Ex.refl _) (.str _)
        exact ⟨_, rfl, _, rfl, _, rfl, _, rfl, _, rfl, _, _, rfl, rfl, _, rfl, z⟩
      · rw [givenD_all] at hd
        rw [Int.toNat_natCast] at hd
        have hs : acc = (rnd n r).map V.str := strs_dpa (by
          unfold rnd
          rw [List.map_map]
          exact hd)
        subst hs
        exact q _ _ e np hp
/-- the webs by where windows lead -/
def sp_law_ways_out (K : PySem.W.Frag) : Sp := fun vs H Q _ => ∃ (a : Addr) (ws : List Str), vs = [.ref a] ∧ Sq K H a (ws.map V.str) ∧ Ws ws ∧ ∀ d H', Ex H H' → H d = none → Wd H' d (ded (plcs ws)) (grp begS endS ws) → Q (.ref d) H'
theorem ok_law_ways_out (T : Tx K mg) : Ok P w K mg base CX0 1 "_law_ways_out" ["windows"] (sp_law_ways_out K) := by
  refine T.d_law_ways_out.ok sc_law_ways_out (fun vs H Q E h => ?_) (fun f cdv A outer s H vs Q E hG hr h => ?_)
  · obtain ⟨a, ws, rfl, _⟩ := h
    rfl
  · obtain ⟨a, ws, rfl, hS, hw, q⟩ := h
    refine ⟨_, (pss_cons (ps_set (i := 1) sc_law_ways_out.nd rfl (Or.inl rfl) pe_dnewK) (pss_cons (ps_for PassesOwn.never rfl (pi_seqK (K := K) (pv 0)) (pg_name (i := 2) sc_law_ways_out.nd rfl (Or.inl rfl)) (pss_cons (ps_for PassesOwn.never rfl (pi_listK (K := K) (pe_lst (pa_cons (pe_slice sl_str (pv 2) po_none (po_some (pe_un un_neg pe_int))) (pa_cons (pe_slice sl_str (pv 2) (po_some pe_int) po_none) pa_nil)))) (pg_name (i := 3) sc_law_ways_out.nd rfl (Or.inl rfl)) (pss_one (ps_if (pt_cmp (pc_dnotin (hu_of hr) (pv 3) (pv 1))) (pss_one (ps_dput (hu_of hr) (pv 1) (pv 3) (pe_lst pa_nil) rfl)) pss_nil))) (pss_cons (ps_set (i := 4) sc_law_ways_out.nd rfl (Or.inl rfl) (pe_dget (hu_of hr) (pv 1) (pe_slice sl_str (pv 2) po_none (po_some (pe_un un_neg pe_int))) (fun _ _ => rfl))) (pss_one (ps_expr (pe_bmK (K := K) PySem.F.plainAttrs_list PySem.F.slot_list_append PySem.F.type_list_append mt_append (pv 4) (pa_cons (pe_slice sl_str (pv 2) (po_some pe_int) po_none) pa_nil))))))) (pss_one (ps_ret (pv 1))))), ?_⟩
    have few := hw.few
    intro d nd
    refine ⟨_, rfl, a, rfl, fo_sq hS (fun i σ H' => ∃ rs x2 x3 x4, σ = [some (.ref a), some (.ref d), x2, x3, x4] ∧ Wb H H' d (ded (plcs (ws.take i))) (grp begS endS (ws.take i)) rs)
      ⟨fun _ => 0, none, none, none, rfl, Wb.start nd⟩ (fun i σ H' ⟨_, _, _, _, _, W⟩ => W.e) ?_ ?_⟩
    · rintro i x σ H' hi ⟨rs, x2, x3, x4, rfl, W⟩
      obtain ⟨z, hz, rfl⟩ := str_at hi
      have zl := (hw.wd z (List.mem_of_getElem? hz)).2
      have zb : z.length ≤ 1000000 := by omega
      have hil : i < ws.length := (List.getElem?_eq_some_iff.mp hz).1
      have kl : (ded (plcs (ws.take i))).length ≤ 2000 := by
        have := ded_le (plcs (ws.take i))
        rw [plcs_len, List.length_take] at this
        omega
      refine ⟨_, rfl, 1, rfl, _, rfl, z, rfl, sz_of zb, ?_⟩
      rw [show cutS z none (some (-1)) = begS z from cut_beg z]
      refine ⟨_, rfl, 1, rfl, z, rfl, sz_of zb, ?_⟩
      rw [cut_end]
      refine ⟨sz_of (by show 2 ≤ 1000000; decide), fun p np => ⟨p, rfl, ?_⟩⟩
      have new0 : ∀ k, k ∉ ded (plcs (ws.take i)) → grp begS endS (ws.take i) k = [] := fun k hk => grp_new fun q => hk (ded_mem.mpr q)
      have Hp0 : H p = none := fresh_back W.e np
      refine fo_lst (Hb := upd H p (.lst [.str (begS z), .str (endS z)])) (xs := [.str (begS z), .str (endS z)]) (SqL.of upd_same) (fun j σ H'' => ∃ rs x3, σ = [some (.ref a), some (.ref d), some (.str z), x3, x4] ∧ Wb (upd H p (.lst [.str (begS z), .str (endS z)])) H'' d (([begS z, endS z].take j).foldl addS (ded (plcs (ws.take i)))) (grp begS endS (ws.take i)) rs) ?_ ?_ ?_ ?_
      · exact ⟨rs, x3, rfl, W.up np⟩
      · exact fun j σ H'' ⟨_, _, _, W⟩ => W.e
      · rintro j x σ H'' hj ⟨rs, x3, rfl, W⟩
        obtain ⟨k, hk, rfl⟩ := str_at (ws := [begS z, endS z]) hj
        have ek : ([begS z, endS z].take (j + 1)).foldl addS (ded (plcs (ws.take i))) = addS (([begS z, endS z].take j).foldl addS (ded (plcs (ws.take i)))) k := by
          rw [take_snoc hk, List.foldl_append]
          rfl
        rw [ek]
        have hsub : ∀ y ∈ ded (plcs (ws.take i)), y ∈ ([begS z, endS z].take j).foldl addS (ded (plcs (ws.take i))) := fun y hy => foldl_addS_mem.mpr (.inl hy)
        have hlen : (([begS z, endS z].take j).foldl addS (ded (plcs (ws.take i)))).length ≤ 2002 := by
          have := nodup_len W.nk (l := ded (plcs (ws.take i)) ++ [begS z, endS z]) fun y hy => (foldl_addS_mem.mp hy).elim (fun q => List.mem_append_left _ q) fun q => List.mem_append_right _ (List.mem_of_mem_take q)
          rw [List.length_append] at this
          have e2 : [begS z, endS z].length = 2 := rfl
          omega
        generalize hks : ([begS z, endS z].take j).foldl addS (ded (plcs (ws.take i))) = ks at W hsub hlen
        refine ⟨_, rfl, _, rfl, d, _, rfl, DGet.k (k := kS k) W.hd, _, rfl, ?_⟩
        by_cases hkk : k ∈ ks
        · rw [show (!(valV (wkv rs ks) (kS k)).isSome) = false by rw [wkv_in, decide_eq_true hkk]; rfl]
          refine iteF ⟨rs, some (.str k), rfl, ?_⟩
          rw [addS, if_pos hkk]
          exact W
        · rw [show (!(valV (wkv rs ks) (kS k)).isSome) = true by rw [wkv_in, decide_eq_false hkk]; rfl]
          refine iteT ⟨sz_of (by show 0 ≤ 1000000; decide), fun p2 np2 => ⟨_, rfl, _, rfl, d, _, rfl, DPut.k (k := kS k) ((Ex.new np2) _ _ W.hd) (sz_lt (by rw [wkv_len]; omega)), fun y => if y = k then p2 else rs y, some (.str k), rfl, ?_⟩⟩
          rw [addS, if_neg hkk]
          exact W.put hkk np2 (new0 k fun q => hkk (hsub k q))
      · rintro σ H'' ⟨rs, x3, rfl, W⟩
        have W := W.down Hp0
        rw [show ([begS z, endS z].take [V.str (begS z), V.str (endS z)].length).foldl addS (ded (plcs (ws.take i))) = ded (plcs (ws.take (i + 1))) by rw [ded_plcs hz]; rfl] at W
        have hbk : begS z ∈ ded (plcs (ws.take (i + 1))) := ded_mem.mpr (beg_mem (by rw [take_snoc hz]; exact List.mem_append_right _ (List.mem_singleton.mpr rfl)))
        obtain ⟨r1, r2⟩ := W.row _ hbk
        refine ⟨_, rfl, _, rfl, 1, rfl, _, rfl, z, rfl, sz_of zb, ?_⟩
        rw [show cutS z none (some (-1)) = begS z from cut_beg z]
        refine ⟨d, .ref (rs (begS z)), rfl, ?_, ?_⟩
        · rw [← wkv_val (rs := rs) hbk]
          exact DGet.k (k := kS (begS z)) W.hd
        · refine ⟨_, rfl, .inl ⟨rfl, _, SqL.of r2⟩, _, rfl, 1, rfl, z, rfl, sz_of zb, ?_⟩
          rw [cut_end]
          refine ⟨_, _, _, rfl, rfl, r2, ?_, rs, _, _, _, rfl, ?_⟩
          · rw [List.length_map]
            have := grp_len begS endS (ws.take i) (begS z)
            rw [List.length_take] at this
            exact sz_lt (by omega)
          · refine (W.app hbk).as fun k _ => ?_
            rw [take_snoc hz, grp_snoc]
    · rintro σ H' ⟨rs, x2, x3, x4, rfl, W⟩
      rw [List.length_map, take_len] at W
      exact ⟨_, rfl, q _ _ W.e nd W.wd⟩
def sp_law_come_to : Sp := fun vs H Q _ => ∃ (D : Addr) (ws : List Str) (p : Str), vs = [.ref D, .str p] ∧ Wd H D (ded (plcs ws)) (grp begS endS ws) ∧ Ws ws ∧ p ∈ plcs ws ∧
  ∀ d H' ks, Ex H H' → ks.Nodup → (∀ q, q ∈ ks ↔ Rch (nxts ws) p q) → H' d = some (.dK (trues ks)) → Q (.ref d) H'
theorem ok_law_come_to (T : Tx K mg) : Ok P w K mg base CX0 1 "_law_come_to" ["ways", "start"] sp_law_come_to := by
  refine T.d_law_come_to.ok sc_law_come_to (fun vs H Q E h => ?_) (fun f cdv A outer s H1 vs Q E hG hr h => ?_)
  · obtain ⟨D, ws, p, rfl, _⟩ := h
    rfl
  · obtain ⟨D, ws, p, rfl, wD, hw, hp, q⟩ := h
    refine ⟨_, (pss_cons (ps_par (i := 2) (j := 3) rfl sc_law_come_to.nd rfl rfl (by decide) rfl rfl (pa_cons (pe_disp (pps_cons (pv 1) pe_bl pps_nil) (by rfl) (by rfl) (fun z => by cases z) (by decide)) (pa_cons (pe_lst (pa_cons (pv 1) pa_nil)) pa_nil)) (by rfl)) (pss_cons (ps_while PassesOwn.never (pt_cmpR (op_neDK (K := K) hr.units) (pv 3) (pe_lst pa_nil) (nomark _)) (pss_one (ps_for PassesOwn.never rfl (pi_listK (K := K) (pe_dget (hu_of hr) (pv 0) (pe_bm0K (K := K) PySem.F.plainAttrs_list PySem.F.slot_list_pop PySem.F.type_list_pop mt_pop (pv 3)) (fun _ _ => rfl))) (pg_name (i := 4) sc_law_come_to.nd rfl (Or.inl rfl)) (pss_one (ps_if (pt_cmp (pc_dnotin (hu_of hr) (pv 4) (pv 2))) (pss_cons (ps_dput (hu_of hr) (pv 2) (pv 4) pe_bl rfl) (pss_one (ps_expr (pe_bmK (K := K) PySem.F.plainAttrs_list PySem.F.slot_list_append PySem.F.type_list_append mt_append (pv 3) (pa_cons (pv 4) pa_nil))))) pss_nil))))) (pss_one (ps_ret (pv 2))))), ?_⟩
    have few := hw.few
    refine fun F nF => ⟨_, rfl, upd_same, [(kS p, .bl true)], rfl, by show 1 ≤ 15; decide, _, rfl, sz_of (by show 1 ≤ 1000000; decide), fun W nW => ⟨_, _, rfl, ?_⟩⟩
    have FW : F ≠ W := ne_of_none upd_same nW
    have nW1 : H1 W = none := by
      rw [upd_upd, upd_ne FW.symm] at nW
      exact nW
    have fl0 : Fl ws p H1 (upd (upd (upd H1 F (.dK [])) F (.dK (mergeK [] [(kS p, .bl true)]))) W (.lst [.str p])) F W (fun _ => False) [p] [p] := by
      rw [upd_upd]
      exact ⟨Ex.mut (Ex.new nF) nW1, nF, nW1, by rw [upd_ne FW, upd_same]; rfl, by rw [upd_same]; rfl, .start, nodup_one p⟩
    refine ⟨fun m σ H' => ∃ x5 ks wl, σ = [some (.ref D), some (.str p), some (.ref F), some (.ref W), x5] ∧ m = flm ws ks wl ∧ Fl ws p H1 H' F W (fun _ => False) ks wl, ⟨_, _, _, _, rfl, rfl, fl0⟩, ?_⟩
    rintro m σ H' ⟨x5, ks, wl, rfl, rfl, fl⟩
    have wlw : ∀ z ∈ wl, Word z := fun z hz => (hw.plc (rch_plc hp (fl.S.rch z (fl.S.sub z hz)))).1
    refine ⟨_, rfl, sz_of (by show 0 ≤ 1000000; decide), fun np nnp => ⟨strsL wl, .list [], dpL (SqL.of ((Ex.new nnp) _ _ fl.hW)), .lst (SqL.of upd_same) .nil, shapedL wlw, rfl, _, rfl, ?_⟩⟩
    have fl := fl.ex (Ex.new (o := .lst []) nnp)
    rcases snoc_cases wl with rfl | ⟨wl', pp, rfl⟩
    · exact iteF ⟨_, rfl, q _ _ _ fl.e fl.S.nd fl.S.done fl.hF⟩
    · rw [ne_nilS]
      refine iteT ⟨fun σ' H' => ∃ x5 ks' wl2, σ' = [some (.ref D), some (.str p), some (.ref F), some (.ref W), x5] ∧ flm ws ks' wl2 < flm ws ks (wl' ++ [pp]) ∧ Fl ws p H1 H' F W (fun _ => False) ks' wl2,
        fun σ' H' ⟨x5, ks', wl2, e, l, f⟩ => ⟨_, l, x5, ks', wl2, e, rfl, f⟩, ?_⟩
      have ppk : pp ∈ ks := fl.S.sub _ (List.mem_append_right _ (List.mem_singleton.mpr rfl))
      have ppp : pp ∈ plcs ws := rch_plc hp (fl.S.rch pp ppk)
      obtain ⟨r, g1, g2⟩ := wD.get (ded_mem.mpr ppp)
      refine ⟨_, rfl, _, rfl, .inl ⟨rfl, _, SqL.of fl.hW⟩, _, _, .str pp, rfl, rfl, fl.hW, last_at, ?_⟩
      rw [drop_last]
      have fl := fl.pop
      have ksl := srch_len hp fl.S
      refine ⟨D, .ref r, rfl, g1 _ fl.e, r, rfl, fo_lst (SqL.of g2) (fun j σ H'' => ∃ x5 ks' wl2, σ = [some (.ref D), some (.str p), some (.ref F), some (.ref W), x5] ∧ Fl ws p H1 H'' F W (fun z => z = pp) ks' wl2 ∧ flm ws ks' wl2 < flm ws ks (wl' ++ [pp]) ∧ pp ∈ ks' ∧ ∀ x ∈ (nxts ws pp).take j, x ∈ ks')
        ⟨x5, ks, wl', rfl, fl, ?_, ppk, fun x hx => (List.not_mem_nil hx).elim⟩ (fun j σ H'' ⟨_, _, _, _, f, _⟩ => f.e) ?_ ?_⟩
      · unfold flm
        rw [List.length_append]
        have : [pp].length = 1 := rfl
        omega
      · rintro j x σ H'' hj ⟨x5, ks', wl2, rfl, fl, lt, hpp, hin⟩
        obtain ⟨z, hz, rfl⟩ := str_at (ws := nxts ws pp) hj
        have znx : z ∈ nxts ws pp := List.mem_of_getElem? hz
        have ksl := srch_len hp fl.S
        refine ⟨_, rfl, _, rfl, F, _, rfl, DGet.k (k := kS z) fl.hF, _, rfl, ?_⟩
        by_cases hk : z ∈ ks'
        · rw [show (!(valV (trues ks') (kS z)).isSome) = false by rw [trues_in, decide_eq_true hk]; rfl]
          refine iteF ⟨_, ks', wl2, rfl, fl, lt, hpp, fun y hy => ?_⟩
          rw [take_snoc hz] at hy
          rcases List.mem_append.mp hy with hy | hy
          · exact hin y hy
          · rw [List.mem_singleton.mp hy]
            exact hk
        · rw [show (!(valV (trues ks') (kS z)).isSome) = true by rw [trues_in, decide_eq_false hk]; rfl]
          have fl2 := fl.put hpp znx hk
          have ksl2 := srch_len hp fl2.S
          have wll : wl2.length ≤ 4000 := by
            have h1 := nodup_len fl.n fl.S.sub
            omega
          refine iteT ⟨_, rfl, _, rfl, F, _, rfl, DPut.k (k := kS z) fl.hF (sz_lt (by rw [trues_len]; omega)), ?_⟩
          have hW2 : (upd H'' F (.dK (putK (trues ks') (kS z) (.bl true)))) W = some (.lst (wl2.map V.str)) := by
            rw [upd_ne fl.ne.symm]
            exact fl.hW
          refine ⟨_, rfl, .inl ⟨rfl, _, SqL.of hW2⟩, _, rfl, _, _, _, rfl, rfl, hW2, sz_lt (by rw [List.length_map]; omega), some (.str z), ks' ++ [z], wl2 ++ [z], rfl, fl2, ?_, List.mem_append_left _ hpp, fun y hy => ?_⟩
          · have e : flm ws (ks' ++ [z]) (wl2 ++ [z]) < flm ws ks' wl2 := by
              unfold flm
              rw [List.length_append, List.length_append] at *
              have : [z].length = 1 := rfl
              omega
            omega
          · rw [take_snoc hz] at hy
            rcases List.mem_append.mp hy with hy | hy
            · exact List.mem_append_left _ (hin y hy)
            · rw [List.mem_singleton.mp hy]
              exact List.mem_append_right _ (List.mem_singleton.mpr rfl)
      · rintro σ H'' ⟨x5, ks', wl2, rfl, fl, lt, hpp, hin⟩
        refine ⟨x5, ks', wl2, rfl, lt, fl.shut fun r hr => ?_⟩
        refine hin r ?_
        have hh : ((grp begS endS ws pp).map V.str).length = (nxts ws pp).length := List.length_map ..
        rw [hh, List.take_length]
        exact hr
end

/-! ### what hangs together -/
section
variable {P : Program} {w : World} {K : PySem.W.Frag} {mg : Str → Option Value} {base : Heap}
theorem Ws.revs {ws : List Str} (h : Ws ws) : Ws (revs ws) := ⟨fun x hx => by
  obtain ⟨y, hy, rfl⟩ := List.mem_map.mp hx
  exact ⟨word_rev (h.wd y hy).1, by rw [rev_len]; exact (h.wd y hy).2⟩, by rw [List.length_map]; exact h.few⟩
def sp_law_hangs (K : PySem.W.Frag) : Sp := fun vs H Q _ => ∃ (a : Addr) (ws : List Str), vs = [.ref a] ∧ Sq K H a (ws.map V.str) ∧ Ws ws ∧ RetD K (.bool (scB ws)) H Q
theorem ok_law_hangs (T : Tx K mg) : Ok P w K mg base CX0 2 "_law_hangs" ["windows"] (sp_law_hangs K) := by
  refine T.d_law_hangs.ok sc_law_hangs (fun vs H Q E h => ?_) (fun f cdv A outer s H vs Q E hG hr h => ?_)
  · obtain ⟨a, ws, rfl, _⟩ := h
    rfl
  · obtain ⟨a, ws, rfl, hS, hw, q⟩ := h
    refine ⟨_, (pss_cons (ps_if (pt_cmpR op_eq (pe_callB (call_lenK (K := K)) (by rfl) T.b_len PySem.boot_len (pa_cons (pv 0) pa_nil)) pe_int (nomark _)) (pss_one (ps_ret pe_bl)) pss_nil) (pss_cons (ps_par (i := 1) (j := 2) rfl sc_law_hangs.nd rfl rfl (by decide) rfl rfl (pa_cons (pe_callO (ok_law_ways_out T) hG (hr.mono (by decide)) (pa_cons (pv 0) pa_nil)) (pa_cons (pe_callO (ok_law_ways_out T) hG (hr.mono (by decide)) (pa_cons (pe_lc (own := [("window", 4)]) (g := gName 4) (tt := tYes) rfl sc_law_hangs.nd (pi_seqK (K := K) (pv 0)) (blkOk_by (own := [("window", 4)]) (N := n_law_hangs) (sc := defScope s_law_hangs) (by decide +kernel)) (fun _ _ _ _ _ => pg_name (i := 4) sc_law_hangs.nd rfl (Or.inl rfl)) (fun _ _ _ _ _ => pts_nil) (fun _ _ _ _ _ => (pe_revS (pv 4)))) pa_nil)) pa_nil)) (by rfl)) (pss_cons (ps_set (i := 3) sc_law_hangs.nd rfl (Or.inl rfl) (pe_slice sl_str (pe_ix (ix_seqK (K := K)) (pv 0) pe_int (fun _ _ => rfl)) (po_some pe_int) po_none)) (pss_one (ps_ret (pe_chain op_eq op_eq (pe_callB call_lenD (by rfl) T.b_len PySem.boot_len (pa_cons (pe_callO (ok_law_come_to T) hG (hr.mono (by decide)) (pa_cons (pv 1) (pa_cons (pv 3) pa_nil))) pa_nil)) (pe_callB call_lenD (by rfl) T.b_len PySem.boot_len (pa_cons (pv 1) pa_nil)) (pe_callB call_lenD (by rfl) T.b_len PySem.boot_len (pa_cons (pe_callO (ok_law_come_to T) hG (hr.mono (by decide)) (pa_cons (pv 2) (pa_cons (pe_revS (pv 3)) pa_nil))) pa_nil)))))))), ?_⟩
    have few := hw.few
    refine ⟨_, rfl, a, _, rfl, hS, rfl, _, rfl, ?_⟩
    cases ws with
    | nil =>
      refine iteT (q _ _ (Ex.refl _) ?_)
      rw [scB_minus_nil rfl]
      exact .bl false
    | cons w0 ws0 =>
      refine iteF ?_
      generalize hws : w0 :: ws0 = ws at *
      have h0 : ws[0]? = some w0 := by rw [← hws]; rfl
      have w0m : w0 ∈ ws := List.mem_of_getElem? h0
      have hp : endS w0 ∈ plcs ws := end_mem w0m
      have w0l := (hw.wd w0 w0m).2
      refine ⟨_, rfl, a, ws, rfl, hS, hw, fun d H1 e1 nd wD => ⟨_, rfl, a, rfl, ?_⟩⟩
      refine lcs_sq (ex_sq e1 hS) (fun _ => true) (fun x => PyData.str (revS x)) (by omega) (fun _ _ => rfl) (fun z H2 Y Z hz e hy hn => ?_) (fun D np H2 acc e hp2 ha => ?_)
      · have zl := (hw.wd z hz).2
        exact ⟨rfl, lc_yes ⟨_, rfl, z, rfl, sz_of (by omega), hy rfl _ _ (Ex.refl _) (.str _)⟩⟩
      · rw [filter_true] at ha
        have ha : acc = (revs ws).map V.str := strs_dpa (by rw [List.map_map]; exact ha)
        subst ha
        refine ⟨D, revs ws, rfl, .inl (SqL.of hp2), hw.revs, fun d2 H3 e3 nd2 wD2 => ?_⟩
        have e13 := e.trans e3
        have atA : ∀ {Hx : Hp} {Y : VK}, Ex H1 Hx → Y (.str w0) Hx → rIx K (.ref a) (.int 0) Hx Y := fun {Hx Y} ex y => by
          have hat : atI (ws.map V.str) 0 = some (.str w0) := atI_of (j := 0) rfl (by rw [List.getElem?_map, h0]; rfl)
          rcases ex_sq (e1.trans ex) hS with h | h
          · exact .inl ⟨a, _, 0, _, rfl, rfl, h, hat, y⟩
          · exact .inr (.inl ⟨a, _, 0, _, rfl, rfl, h, hat, y⟩)
        refine ⟨_, _, rfl, _, rfl, atA e13 ⟨1, rfl, w0, rfl, sz_of (by omega), ?_⟩⟩
        rw [cut_end]
        refine ⟨_, rfl, _, rfl, d, ws, endS w0, rfl, wD.ex e13, hw, hp, fun r H4 ks e4 nks mks hr4 => ?_⟩
        obtain ⟨rs, wd1, _⟩ := wD.ex (e13.trans e4)
        refine ⟨r, _, rfl, hr4, _, rfl, d, _, rfl, wd1, rfl, _, rfl, ?_⟩
        rw [trues_len, wkv_len]
        have ex4 : Ex H H4 := (e1.trans e13).trans e4
        by_cases hk : ks.length = (ded (plcs ws)).length
        · rw [decide_eq_true (show V.int (ks.length : Int) = V.int ((ded (plcs ws)).length : Int) by rw [hk])]
          refine iteT ⟨_, rfl, _, rfl, _, rfl, sz_of (by rw [len_end]; omega), d2, revs ws, revS (endS w0), rfl, wD2.ex e4, hw.revs, plcs_revs.mpr hp, fun r2 H5 rks e5 nrk mrk hr5 => ⟨r2, _, rfl, hr5, rfl, ?_⟩⟩
          rw [trues_len]
          refine q _ _ (ex4.trans e5) ?_
          have hb := hangs_by hp nks mks nrk mrk
          by_cases hr : (ded (plcs ws)).length = rks.length
          · rw [decide_eq_true (show V.int ((ded (plcs ws)).length : Int) = V.int (rks.length : Int) by rw [hr]), scB_hang (fun z => by rw [z] at w0m; cases w0m) (hb.mp ⟨hk, hr⟩)]
            exact .bl true
          · rw [decide_eq_false (fun (z : V.int ((ded (plcs ws)).length : Int) = V.int (rks.length : Int)) => hr (by have z := V.int.inj z; omega)), scB_false fun z => hr (hb.mpr z.2).2]
            exact .bl false
        · rw [decide_eq_false (fun (z : V.int (ks.length : Int) = V.int ((ded (plcs ws)).length : Int)) => hk (by have z := V.int.inj z; omega))]
          refine iteF (q _ _ ex4 ?_)
          rw [scB_false fun z => hk ?_]
          · exact .bl false
          · have l1 := nodup_len nks (l := ded (plcs ws)) fun x hx => ded_mem.mpr (rch_plc hp ((mks x).mp hx))
            have l2 := nodup_len (ded_nd (plcs ws)) (l := ks) fun x hx => (mks x).mpr (z.2 _ hp x (ded_mem.mp hx))
            omega
end

/-! ### books that the law draws -/
section
variable {P : Program} {w : World} {K : PySem.W.Frag} {mg : Str → Option Value} {base : Heap}
/-- a text to draw from -/
def Lett (z : Str) : Prop := Word z ∧ 2 ≤ z.length ∧ z.length ≤ 10
/-- a drawn ring text -/
def Ring (r : Str) : Prop := Word r ∧ 1 ≤ r.length ∧ r.length ≤ 100
def Stp (n : Nat) (x : Str) : Prop := Word x ∧ x.length = n
theorem word_lit (z : Str) (h : (sg z).all (fun c => decide (97 ≤ c ∧ c ≤ 122)) = true) : Word z := wordB_word h
theorem rnd_stp {n : Nat} {r : Str} (h : Ring r) : ∀ x ∈ rnd n r, Stp n x := fun x hx => by
  obtain ⟨h1, h2⟩ := rnd_mem hx
  exact ⟨fun c hc => h.1 c (h2 c hc), h1⟩
theorem ring_tx {z : Str} {l : List Nat} (hz : Word z) (h : ∀ a ∈ l, a ∈ sg z) : Word (tx l) := fun c hc => hz c (h c hc)
theorem int_mem {v : V} {is : List Int} (h : v ∈ is.map V.int) : ∃ i ∈ is, v = .int i := by
  obtain ⟨i, hi, rfl⟩ := List.mem_map.mp h
  exact ⟨i, hi, rfl⟩
theorem str_mem {v : V} {is : List Str} (h : v ∈ is.map V.str) : ∃ i ∈ is, v = .str i := by
  obtain ⟨i, hi, rfl⟩ := List.mem_map.mp h
  exact ⟨i, hi, rfl⟩
theorem seqIx {i n : Nat} (h : i < n) : seqIndex? (i : Int) n = some i := by
  unfold seqIndex?
  have h1 : ¬ ((i : Int) < 0) := by omega
  have h2 : (decide (0 ≤ (i : Int)) && decide ((i : Int) < (n : Int))) = true := by
    rw [decide_eq_true (by omega), decide_eq_true (by omega)]
    rfl
  rw [if_neg h1]
  show (if (decide (0 ≤ (i : Int)) && decide ((i : Int) < (n : Int))) = true then some (i : Int).toNat else none) = _
  rw [if_pos h2, Int.toNat_natCast]
/-- what a drawn book is -/
structure Drawn (most n : Nat) (ws rs : List Str) : Prop where
  bk : Bk n ws
  le : ws.length ≤ most
  rg : ∀ r ∈ rs, Ring r
  few : rs.length ≤ 10
def sp_law_wide_book (K : PySem.W.Frag) : Sp := fun vs H Q _ => ∃ (w : Addr) (most c : Nat) (G : Hp), vs = [.ref w, .int most] ∧ 2 ≤ most ∧ most ≤ 43 ∧ c ≤ 10000 ∧ Wt w c G H ∧
  ∀ (T b kl : Addr) (n : Nat) (ws rs : List Str) (G' H' : Hp), Ex G G' → Wt w (c + 1000) G' H' → SqT K G' T [.ref b, .ref kl] → Dp K G' (.ref b) (bookD n ws) → G' kl = some (.lst (rs.map V.str)) → Drawn most n ws rs → Q (.ref T) H'
theorem ok_law_wide_book (T : Tx K mg) : Ok P w K mg base CX0 3 "_law_wide_book" ["well", "most"] (sp_law_wide_book K) := by
  refine T.d_law_wide_book.ok sc_law_wide_book (fun vs H Q E h => ?_) (fun f cdv A outer s H vs Q E hG hr h => ?_)
  · obtain ⟨w, most, c, G, rfl, _⟩ := h
    rfl
  · obtain ⟨w, most, c, G, rfl, hm, hm2, hc, W, q⟩ := h
    refine ⟨_, (pss_cons (ps_asg (pe_tup (pa_cons (pe_op op_add pe_int (pe_callO (ok_law_pick T) hG (hr.mono (by decide)) (pa_cons (pv 0) (pa_cons pe_int pa_nil)))) (pa_cons (pe_callO (ok_law_one_of T) hG (hr.mono (by decide)) (pa_cons (pv 0) (pa_cons (pe_lst (pa_cons pe_str (pa_cons pe_str (pa_cons pe_str (pa_cons pe_str (pa_cons pe_str pa_nil)))))) pa_nil))) pa_nil))) (pg_tup rfl (pgs_cons (pg_name (i := 2) sc_law_wide_book.nd rfl (Or.inr rfl)) (pgs_cons (pg_name (i := 3) sc_law_wide_book.nd rfl (Or.inr rfl)) pgs_nil)))) (pss_cons (ps_par (i := 4) (j := 5) rfl sc_law_wide_book.nd rfl rfl (by decide) rfl rfl (pa_cons (pe_lst pa_nil) (pa_cons (pe_lst pa_nil) pa_nil)) (by rfl)) (pss_cons (ps_for PassesOwn.never rfl (pi_range1 (by rfl) T.b_range (pa_cons (pe_op op_add pe_int (pe_callO (ok_law_pick T) hG (hr.mono (by decide)) (pa_cons (pv 0) (pa_cons pe_int pa_nil)))) pa_nil)) (pg_name (i := 6) sc_law_wide_book.nd rfl (Or.inl rfl)) (pss_cons (ps_set (i := 7) sc_law_wide_book.nd rfl (Or.inr rfl) (pe_callO (ok_law_one_of T) hG (hr.mono (by decide)) (pa_cons (pv 0) (pa_cons (pe_lst (pa_cons (pv 3) (pa_cons (pv 3) (pa_cons (pe_slice sl_str (pv 3) po_none (po_some pe_int)) (pa_cons (pe_op op_add_str (pe_slice sl_str (pv 3) (po_some pe_int) po_none) pe_str) pa_nil))))) pa_nil)))) (pss_cons (ps_set (i := 8) sc_law_wide_book.nd rfl (Or.inl rfl) (pe_joinK (K := K) pe_str (pe_lc (own := [("letter", 11)]) (g := gName 11) (tt := tYes) rfl sc_law_wide_book.nd (pi_range1 (by rfl) T.b_range (pa_cons (pe_op op_add pe_int (pe_callO (ok_law_pick T) hG (hr.mono (by decide)) (pa_cons (pv 0) (pa_cons (pv 1) pa_nil)))) pa_nil)) (blkOk_by (own := [("letter", 11)]) (N := n_law_wide_book) (sc := defScope s_law_wide_book) (by decide +kernel)) (fun _ _ _ _ _ => pg_name (i := 11) sc_law_wide_book.nd rfl (Or.inl rfl)) (fun _ _ _ _ _ => pts_nil) (fun _ _ _ _ _ => (pe_callO (ok_law_one_of T) hG (hr.mono (by decide)) (pa_cons (pv 0) (pa_cons (pv 7) pa_nil))))))) (pss_one (ps_if (pt_cmpR op_le (pe_callB call_lenD (by rfl) T.b_len PySem.boot_len (pa_cons (pe_callO (ok_law_tally T) hG (hr.mono (by decide)) (pa_cons (pe_op op_cat (pv 4) (pe_callO (ok_law_round T) hG (hr.mono (by decide)) (pa_cons (pv 2) (pa_cons (pv 8) pa_nil)))) pa_nil)) pa_nil)) (pv 1) (nomark _)) (pss_cons (ps_set (i := 4) sc_law_wide_book.nd rfl (Or.inl rfl) (pe_op op_cat (pv 4) (pe_callO (ok_law_round T) hG (hr.mono (by decide)) (pa_cons (pv 2) (pa_cons (pv 8) pa_nil))))) (pss_one (ps_expr (pe_bmK (K := K) PySem.F.plainAttrs_list PySem.F.slot_list_append PySem.F.type_list_append mt_append (pv 5) (pa_cons (pv 8) pa_nil))))) pss_nil))))) (pss_cons (ps_for PassesOwn.never rfl (pi_range1 (by rfl) T.b_range (pa_cons (pe_callO (ok_law_one_of T) hG (hr.mono (by decide)) (pa_cons (pv 0) (pa_cons (pe_lst (pa_cons pe_int (pa_cons pe_int (pa_cons pe_int (pa_cons pe_int (pa_cons pe_int pa_nil)))))) pa_nil))) pa_nil)) (pg_name (i := 6) sc_law_wide_book.nd rfl (Or.inl rfl)) (pss_one (ps_set (i := 4) sc_law_wide_book.nd rfl (Or.inl rfl) (pe_op op_cat (pv 4) (pe_lst (pa_cons (pe_joinK (K := K) pe_str (pe_lc (own := [("letter", 11)]) (g := gName 11) (tt := tYes) rfl sc_law_wide_book.nd (pi_range1 (by rfl) T.b_range (pa_cons (pv 2) pa_nil)) (blkOk_by (own := [("letter", 11)]) (N := n_law_wide_book) (sc := defScope s_law_wide_book) (by decide +kernel)) (fun _ _ _ _ _ => pg_name (i := 11) sc_law_wide_book.nd rfl (Or.inl rfl)) (fun _ _ _ _ _ => pts_nil) (fun _ _ _ _ _ => (pe_callO (ok_law_one_of T) hG (hr.mono (by decide)) (pa_cons (pv 0) (pa_cons (pv 3) pa_nil)))))) pa_nil)))))) (pss_cons (ps_set (i := 9) sc_law_wide_book.nd rfl (Or.inr rfl) (pe_slice (sl_listK (K := K)) (pe_callB (cr_sortDct (K := K) rfl hr.units) (by rfl) T.b_sorted (by decide +kernel) (pa_cons (pe_callO (ok_law_tally T) hG (hr.mono (by decide)) (pa_cons (pv 4) pa_nil)) pa_nil)) po_none (po_some (pv 1)))) (pss_cons (ps_for PassesOwn.never rfl (pi_range1 (by rfl) T.b_range (pa_cons (pe_callO (ok_law_one_of T) hG (hr.mono (by decide)) (pa_cons (pv 0) (pa_cons (pe_lst (pa_cons pe_int (pa_cons pe_int (pa_cons pe_int (pa_cons pe_int (pa_cons pe_int pa_nil)))))) pa_nil))) pa_nil)) (pg_name (i := 6) sc_law_wide_book.nd rfl (Or.inl rfl)) (pss_one (ps_if (pt_cmpR op_gt (pe_callB (call_lenK (K := K)) (by rfl) T.b_len PySem.boot_len (pa_cons (pv 9) pa_nil)) pe_int (nomark _)) (pss_one (ps_expr (pe_bmK (K := K) PySem.F.plainAttrs_list PySem.F.slot_list_pop PySem.F.type_list_pop mt_popAt (pv 9) (pa_cons (pe_callO (ok_law_pick T) hG (hr.mono (by decide)) (pa_cons (pv 0) (pa_cons (pe_callB (call_lenK (K := K)) (by rfl) T.b_len PySem.boot_len (pa_cons (pv 9) pa_nil)) pa_nil))) pa_nil)))) pss_nil))) (pss_cons (ps_setLc (i := 10) (own := [("ring", 8)]) (g := gName 8) rfl sc_law_wide_book.nd rfl rfl (sw_true rfl rfl rfl (by decide +kernel)) (pi_listK (K := K) (pv 5)) (blkOk_by (own := [("ring", 8)]) (N := n_law_wide_book) (sc := defScope s_law_wide_book) (by decide +kernel)) (fun _ _ _ _ _ => pg_name (i := 8) sc_law_wide_book.nd rfl (Or.inl rfl)) (fun _ _ _ _ _ => pts_one (pt_cmpR op_eq (pe_callB (call_lenK (K := K)) (by rfl) T.b_len PySem.boot_len (pa_cons (pe_callO (ok_law_without T) hG (hr.mono (by decide)) (pa_cons (pe_callO (ok_law_round T) hG (hr.mono (by decide)) (pa_cons (pv 2) (pa_cons (pv 8) pa_nil))) (pa_cons (pv 9) pa_nil))) pa_nil)) pe_int (nomark _))) (fun _ _ _ _ _ => (pv 8))) (pss_one (ps_ret (pe_tup (pa_cons (pe_tup (pa_cons (pv 2) (pa_cons (pe_callTy (call_tupleK (K := K)) (by rfl) T.b_tuple (by decide +kernel) (pa_cons (pv 9) pa_nil)) pa_nil))) (pa_cons (pv 10) pa_nil)))))))))))), ?_⟩
    have s0 : 0 ≤ sizeLine := sz_of (by omega)
    have s1 : 1 ≤ sizeLine := sz_of (by omega)
    have s2 : 2 ≤ sizeLine := sz_of (by omega)
    have s4 : 4 ≤ sizeLine := sz_of (by omega)
    have s5 : 5 ≤ sizeLine := sz_of (by omega)
    -- size, letters
    refine ⟨_, rfl, w, 5, c, G, rfl, by omega, by omega, by omega, W, fun i H1 hi W1 => ⟨2, i, rfl, rfl, _, rfl, s5, fun p np => ⟨w, .ref p, 5, c + 1, upd G p _, rfl, by omega, by omega, by omega, W1.new np, .inr ⟨p, _, rfl, .inl (SqL.of upd_same), rfl, fun v H2 hv W2 => ?_⟩⟩⟩⟩
    obtain ⟨z, hz, rfl⟩ := str_mem (is := ["ab", "abc", "abcd", "bdfhz", "acegikmo"]) hv
    have hL : Lett z := by
      simp only [List.mem_cons, List.mem_nil_iff, or_false] at hz
      rcases hz with rfl | rfl | rfl | rfl | rfl <;> exact ⟨word_lit _ (by decide +kernel), by decide +kernel, by decide +kernel⟩
    refine ⟨s2, fun q1 nq1 => ⟨q1, _, rfl, SqT.of upd_same, rfl, _, _, rfl, _, _, rfl, rfl, ?_⟩⟩
    obtain ⟨n, hn, hn2, hn6⟩ : ∃ n : Nat, (2 : Int) + (i : Int) = (n : Int) ∧ 2 ≤ n ∧ n ≤ 6 := ⟨2 + i, by omega, by omega, by omega⟩
    have W3 := W2.new (o := .tup [.int (2 + (i : Int)), .str z]) nq1
    have e3 : Ex G (upd (upd G p (.lst [.str "ab", .str "abc", .str "abcd", .str "bdfhz", .str "acegikmo"])) q1 (.tup [.int (2 + (i : Int)), .str z])) := (Ex.new (W1.free np)).trans (Ex.new (W2.free nq1))
    generalize upd (upd G p (.lst [.str "ab", .str "abc", .str "abcd", .str "bdfhz", .str "acegikmo"])) q1 (.tup [.int (2 + (i : Int)), .str z]) = G3 at W3 e3
    generalize upd H2 q1 (.tup [.int (2 + (i : Int)), .str z]) = H3 at W3
    dsimp only
    rw [hn]
    -- steps, rings
    refine ⟨s0, fun st nst => ⟨s0, fun rg nrg => ⟨_, _, rfl, ?_⟩⟩⟩
    have W4 := (W3.new (o := .lst []) nst).new (o := .lst []) nrg
    have nst3 := W3.free nst
    have nrg3 := (W3.new (o := .lst []) nst).free nrg
    have g3rg : G3 rg = none := fresh_back (Ex.new nst3) nrg3
    have e4 : Ex G3 (upd (upd G3 st (.lst [])) rg (.lst [])) := (Ex.new nst3).trans (Ex.new nrg3)
    have dst : (upd (upd G3 st (.lst [])) rg (.lst [])) st = some (.lst []) := Ex.new nrg3 _ _ upd_same
    have drg : (upd (upd G3 st (.lst [])) rg (.lst [])) rg = some (.lst []) := upd_same
    generalize upd (upd G3 st (.lst [])) rg (.lst []) = G4 at W4 e4 dst drg
    generalize upd (upd H3 st (.lst [])) rg (.lst []) = H4 at W4
    -- the rings
    refine ⟨_, rfl, w, 5, c + 2, G4, rfl, by omega, by omega, by omega, W4, fun i2 H5 hi2 W5 => ⟨1, i2, rfl, rfl, _, rfl, by omega, by omega, ?_⟩⟩
    refine fo_rng (fun j σ H' => ∃ (G' : Hp) (xs rs : List Str) (st : Addr) (x6 x7 x8 : Option V), σ = [some (.ref w), some (.int most), some (.int n), some (.str z), some (.ref st), some (.ref rg), x6, x7, x8, none, none, none] ∧ Ex G3 G' ∧ Wt w (c + 10 + 60 * j) G' H' ∧
      G' st = some (.lst (xs.map V.str)) ∧ G' rg = some (.lst (rs.map V.str)) ∧ (∀ x ∈ xs, Stp n x) ∧ (∀ r ∈ rs, Ring r) ∧ xs.length ≤ 60 * j ∧ rs.length ≤ j ∧ (j = 0 → xs = []) ∧ (0 < j → xs ≠ [])) ?_ ?_ ?_
    · exact ⟨G4, [], [], st, none, none, none, rfl, e4, W5.up (by omega), dst, drg, fun x h => (List.not_mem_nil h).elim, fun x h => (List.not_mem_nil h).elim, Nat.zero_le _, Nat.zero_le _, fun _ => rfl, fun h => absurd h (by omega)⟩
    · rintro j σ H' hj ⟨G', xs, rs, st, x6, x7, x8, rfl, e, W, hst, hrg, hxs, hrs, lx, lr, j0, j1⟩
      have hj5 : j < 5 := by omega
      have hz2 := hL.2.1
      have hz10 := hL.2.2
      have szz : z.length ≤ sizeLine := sz_of (by omega)
      have lk : ((cutS z (some 1) none).length + ("k" : Str).length) ≤ sizeLine := by
        rw [cut_end, len_end]
        have : ("k" : Str).length = 1 := by decide +kernel
        exact sz_of (by omega)
      refine ⟨_, rfl, _, rfl, _, rfl, _, rfl, 2, rfl, z, rfl, szz, _, rfl, 1, rfl, z, rfl, szz, _, _, rfl, rfl, lk, s4, fun p np => ⟨w, .ref p, 4, c + 10 + 60 * j, upd G' p _, rfl, by omega, by omega, by omega, W.new np, .inr ⟨p, _, rfl, .inl (SqL.of upd_same), rfl, fun v H2 hv W2 => ?_⟩⟩⟩
      obtain ⟨so, hso, rfl⟩ := str_mem (is := [z, z, cutS z none (some 2), cutS z (some 1) none ++ "k"]) hv
      have hso : Word so ∧ 1 ≤ so.length ∧ so.length ≤ 100 := by
        have kk : Word ("k" : Str) := word_lit _ (by decide +kernel)
        have kl : ("k" : Str).length = 1 := by decide +kernel
        simp only [List.mem_cons, List.mem_nil_iff, or_false] at hso
        rcases hso with rfl | rfl | rfl | rfl
        · exact ⟨hL.1, by omega, by omega⟩
        · exact ⟨hL.1, by omega, by omega⟩
        · rw [show cutS z none (some 2) = tx ((sg z).take 2) from cut_to z 2]
          refine ⟨fun c hc => hL.1 c (List.mem_of_mem_take hc), ?_⟩
          have : (tx ((sg z).take 2)).length = min 2 z.length := List.length_take ..
          omega
        · rw [cut_end]
          refine ⟨fun c hc => ?_, ?_⟩
          · rw [sg_app] at hc
            rcases List.mem_append.mp hc with h | h
            · exact word_end hL.1 c h
            · exact kk c h
          · rw [strLen_app, len_end, kl]
            omega
      have eG1 : Ex G' (upd G' p (.lst [.str z, .str z, .str (cutS z none (some 2)), .str (cutS z (some 1) none ++ "k")])) := Ex.new (W.free np)
      have W2' : Wt w (c + 10 + 60 * j + 1) (upd G' p (.lst [.str z, .str z, .str (cutS z none (some 2)), .str (cutS z (some 1) none ++ "k")])) H2 := W2
      clear W2
      generalize upd G' p (.lst [.str z, .str z, .str (cutS z none (some 2)), .str (cutS z (some 1) none ++ "k")]) = G5 at W2' eG1
      refine ⟨⟨_, rfl⟩, _, rfl, _, rfl, w, most, _, G5, rfl, by omega, by omega, by omega, W2', fun i3 H7 hi3 W7 => ⟨1, i3, rfl, rfl, _, rfl, by omega, by omega, fun D np7 => ?_⟩⟩
      have ei3 : ((1 : Int) + (i3 : Int)).toNat = 1 + i3 := by omega
      rw [ei3]
      refine lc_letters (K := K) (z := so) W7 (by omega) (by omega) np7 (fun i4 x c4 G8 H8 Y e8 hc4 W8 hy => ?_) (fun G9 H9 l e9 W9 hl hlm hD => ?_)
      · exact ⟨rfl, lc_yes ⟨_, rfl, _, rfl, w, .str so, so.length, c4, G8, rfl, hso.2.1, by omega, hc4, W8, .inl ⟨so, rfl, rfl, hy⟩⟩⟩
      · refine ⟨"", D, l.map one1, rfl, rfl, .inl (SqL.of (W9.e _ _ hD)), ?_, ?_⟩
        · rw [lens_ones1, hl]
          have : ("" : Str).length = 0 := by decide +kernel
          rw [this]
          omega
        rw [join_ones1]
        have hr : Ring (tx l) := ⟨ring_tx hso.1 hlm, by show 1 ≤ l.length; omega, by show l.length ≤ 100; omega⟩
        have hrl : (tx l).length = 1 + i3 := hl
        generalize tx l = ring at hr hrl
        have eG : Ex G' G9 := eG1.trans e9
        have rl : (rnd n ring).length = 1 + i3 := by rw [rnd_len, hrl]
        have cat : (xs.map V.str ++ (rnd n ring).map V.str) = (xs ++ rnd n ring).map V.str := List.map_append.symm
        have lcat : (xs.map V.str).length + ((rnd n ring).map V.str).length ≤ sizeLine := by
          rw [List.length_map, List.length_map]
          exact sz_of (by omega)
        have hst9 := W9.e _ _ (eG _ _ hst)
        refine ⟨_, rfl, _, rfl, _, rfl, n, ring, rfl, hr.2.1, by omega, by omega, fun a Ha ea na ha => ⟨st, a, _, _, rfl, rfl, ea _ _ hst9, ha, lcat, fun p1 np1 => ⟨p1, xs ++ rnd n ring, rfl, SqL.of (by rw [cat]; exact upd_same), by rw [List.length_append]; omega, fun d Hd ed nd hd => ⟨d, _, rfl, hd, _, rfl, _, _, rfl, rfl, _, rfl, ?_⟩⟩⟩⟩
        have exd : Ex H9 Hd := (ea.trans (Ex.new np1)).trans ed
        have tl : (tkv (xs ++ rnd n ring)).length = (ded (xs ++ rnd n ring)).length := fkv_len _ _
        by_cases hle : ((tkv (xs ++ rnd n ring)).length : Int) ≤ (most : Int)
        · rw [decide_eq_true hle]
          refine iteT ⟨_, rfl, _, rfl, _, rfl, n, ring, rfl, hr.2.1, by omega, by omega, fun a2 Hb eb nb hb => ⟨st, a2, _, _, rfl, rfl, eb _ _ (exd _ _ hst9), hb, lcat, fun p2 np2 => ?_⟩⟩
          obtain ⟨G10, eg10, W10, _⟩ := W9.ex (exd.trans eb)
          have W11 := W10.new (o := .lst (xs.map V.str ++ (rnd n ring).map V.str)) np2
          have fp2 := W10.free np2
          have hrg11 : (upd G10 p2 (.lst (xs.map V.str ++ (rnd n ring).map V.str))) rg = some (.lst (rs.map V.str)) := Ex.new fp2 _ _ (eg10 _ _ (eG _ _ hrg))
          have hrgH := W11.e _ _ hrg11
          refine ⟨_, rfl, .inl ⟨rfl, _, SqL.of hrgH⟩, _, rfl, rg, _, _, rfl, rfl, hrgH, sz_lt (by rw [List.length_map]; omega), ?_⟩
          refine ⟨upd (upd G10 p2 (.lst (xs.map V.str ++ (rnd n ring).map V.str))) rg (.lst (rs.map V.str ++ [.str ring])), xs ++ rnd n ring, rs ++ [ring], p2, _, _, _, rfl, Ex.mut ((e.trans (eG.trans eg10)).trans (Ex.new fp2)) g3rg, (W11.mut hrg11).up (by omega), ?_, ?_, ?_, ?_, ?_, ?_, fun h => absurd h (by omega), fun _ => ?_⟩
          · rw [upd_ne (ne_of_none (eg10 _ _ (eG _ _ hrg)) fp2).symm, upd_same, cat]
          · rw [upd_same, List.map_append]
            rfl
          · exact fun x hx => (List.mem_append.mp hx).elim (hxs x) (rnd_stp hr x)
          · exact fun x hx => (List.mem_append.mp hx).elim (hrs x) fun h => by rw [List.mem_singleton.mp h]; exact hr
          · rw [List.length_append]
            omega
          · rw [List.length_append]
            have : [ring].length = 1 := rfl
            omega
          · intro h
            have h2 := (List.append_eq_nil_iff.mp h).2
            rw [h2] at rl
            have : ([] : List Str).length = 0 := rfl
            omega
        · rw [decide_eq_false hle]
          obtain ⟨G10, eg10, W10, _⟩ := W9.ex exd
          refine iteF ⟨G10, xs, rs, st, _, _, _, rfl, e.trans (eG.trans eg10), W10.up (by omega), eg10 _ _ (eG _ _ hst), eg10 _ _ (eG _ _ hrg), hxs, hrs, by omega, by omega, fun h => absurd h (by omega), fun _ => ?_⟩
          intro h
          apply hle
          subst h
          have := ded_le ([] ++ rnd n ring)
          rw [List.nil_append] at this tl ⊢
          rw [tl]
          omega
    · rintro σ H' ⟨G6, xs, rs, st, x6, x7, x8, rfl, e5, W6, hst, hrg, hxs, hrs, lx, lr, _, j1⟩
      have xne := j1 (by omega)
      have W6 := W6.up (show c + 10 + 60 * ((1 : Int) + (i2 : Int)).toNat ≤ c + 310 by omega)
      have lx : xs.length ≤ 300 := by omega
      have lr : rs.length ≤ 5 := by omega
      have eG6 : Ex G G6 := e3.trans e5
      clear j1
      -- some more windows
      refine ⟨_, rfl, s5, fun p np => ⟨w, .ref p, 5, c + 310, upd G6 p _, rfl, by omega, by omega, by omega, W6.new np, .inr ⟨p, _, rfl, .inl (SqL.of upd_same), rfl, fun v H2 hv W7 => ?_⟩⟩⟩
      obtain ⟨tn, ht, rfl⟩ := int_mem (is := [0, 0, 0, 1, 3]) hv
      have ht : 0 ≤ tn ∧ tn ≤ 3 := by
        simp only [List.mem_cons, List.mem_nil_iff, or_false] at ht
        omega
      have e7 : Ex G6 (upd G6 p (.lst [.int 0, .int 0, .int 0, .int 1, .int 3])) := Ex.new (W6.free np)
      have W7' : Wt w (c + 311) (upd G6 p (.lst [.int 0, .int 0, .int 0, .int 1, .int 3])) H2 := W7
      clear W7
      generalize upd G6 p (.lst [.int 0, .int 0, .int 0, .int 1, .int 3]) = G7 at W7' e7
      refine ⟨tn, rfl, by omega, by omega, ?_⟩
      refine fo_rng (fun j σ H' => ∃ (G' : Hp) (xs : List Str) (st : Addr) (x6 : Option V), σ = [some (.ref w), some (.int most), some (.int n), some (.str z), some (.ref st), some (.ref rg), x6, x7, x8, none, none, none] ∧ Ex G7 G' ∧ Wt w (c + 311 + 10 * j) G' H' ∧
        G' st = some (.lst (xs.map V.str)) ∧ (∀ x ∈ xs, Stp n x) ∧ xs.length ≤ 300 + j ∧ xs ≠ []) ?_ ?_ ?_
      · exact ⟨G7, xs, st, _, rfl, Ex.refl _, W7', e7 _ _ hst, hxs, by omega, xne⟩
      · rintro j σ H' hj ⟨G', xs, st, x6, rfl, e, W, hst, hxs, lx, xne⟩
        have hj3 : j < 3 := by omega
        refine ⟨_, rfl, ⟨_, rfl⟩, _, rfl, n, rfl, by omega, by omega, fun D npD => ?_⟩
        rw [Int.toNat_natCast]
        refine lc_letters (K := K) (z := z) W (by omega) (by omega) npD (fun i4 x c4 G8 H8 Y e8 hc4 W8 hy => ?_) (fun G9 H9 l e9 W9 hl hlm hD => ?_)
        · have hz2 := hL.2.1
          have hz10 := hL.2.2
          exact ⟨rfl, lc_yes ⟨_, rfl, _, rfl, w, .str z, z.length, c4, G8, rfl, by omega, by omega, hc4, W8, .inl ⟨z, rfl, rfl, hy⟩⟩⟩
        · refine ⟨"", D, l.map one1, rfl, rfl, .inl (SqL.of (W9.e _ _ hD)), ?_, ?_⟩
          · rw [lens_ones1, hl]
            have : ("" : Str).length = 0 := by decide +kernel
            rw [this]
            omega
          rw [join_ones1]
          have hst2 : Stp n (tx l) := ⟨ring_tx hL.1 hlm, hl⟩
          generalize tx l = one at hst2
          refine ⟨s1, fun p np => ?_⟩
          have hstG := e9 _ _ hst
          have W10 := W9.new (o := .lst [.str one]) np
          have hst10 := Ex.new (o := .lst [.str one]) (W9.free np) _ _ hstG
          refine ⟨st, p, _, _, rfl, rfl, W10.e _ _ hst10, upd_same, by rw [List.length_map]; exact sz_of (by show xs.length + 1 ≤ _; omega), fun p2 np2 => ?_⟩
          have W11 := W10.new (o := .lst (xs.map V.str ++ [.str one])) np2
          refine ⟨_, xs ++ [one], p2, _, rfl, ((e.trans e9).trans (Ex.new (W9.free np))).trans (Ex.new (W10.free np2)), W11.up (by omega), by rw [upd_same, List.map_append]; rfl, ?_, ?_, by simp⟩
          · exact fun x hx => (List.mem_append.mp hx).elim (hxs x) fun h => by rw [List.mem_singleton.mp h]; exact hst2
          · rw [List.length_append]
            have : [one].length = 1 := rfl
            omega
      · rintro σ H' ⟨G8, xs, st, x6, rfl, e8, W8, hst, hxs, lx, xne⟩
        have W8 := W8.up (show c + 311 + 10 * tn.toNat ≤ c + 341 by omega)
        have lx : xs.length ≤ 303 := by omega
        have dl := ded_le xs
        refine ⟨_, rfl, st, xs, rfl, SqL.of (W8.e _ _ hst), by omega, fun d Hd ed nd hd => ⟨d, _, ded xs, rfl, .inl hd, fkv_keys _ _, by omega, fun p np => ⟨_, rfl, _, rfl, p, _, rfl, SqL.of upd_same, fun wl nwl => ?_⟩⟩⟩
        have hcut : cutV ((sortS (ded xs)).map V.str) none (some (most : Int)) = ((sortS (ded xs)).take most).map V.str := by rw [cutV_to, List.map_take]
        obtain ⟨G9, e9, W9, _⟩ := W8.ex (ed.trans (Ex.new (o := .lst ((sortS (ded xs)).map V.str)) np))
        have fwl := W9.free nwl
        have W10 := W9.new (o := .lst (cutV ((sortS (ded xs)).map V.str) none (some (most : Int)))) nwl
        have hw10 : (upd G9 wl (.lst (cutV ((sortS (ded xs)).map V.str) none (some (most : Int))))) wl = some (.lst (((sortS (ded xs)).take most).map V.str)) := by rw [upd_same, hcut]
        have asc0 : Asc ((sortS (ded xs)).take most) := List.Pairwise.sublist (List.take_sublist _ _) (sortS_asc (ded_nd _))
        have stp0 : ∀ x ∈ (sortS (ded xs)).take most, Stp n x := fun x hx => hxs x (ded_mem.mp (sortS_mem.mp (List.mem_of_mem_take hx)))
        have ne0 : (sortS (ded xs)).take most ≠ [] := by
          intro h
          have h1 : ((sortS (ded xs)).take most).length = 0 := by rw [h]; rfl
          rw [List.length_take, sortS_len] at h1
          have h2 : (ded xs).length = 0 := by omega
          obtain ⟨x, hx⟩ := List.exists_mem_of_ne_nil _ xne
          have h3 := ded_mem.mpr hx
          rw [List.length_eq_zero_iff.mp h2] at h3
          cases h3
        have le0 : ((sortS (ded xs)).take most).length ≤ most := by rw [List.length_take]; omega
        generalize (sortS (ded xs)).take most = ws0 at hw10 asc0 stp0 ne0 le0
        have e10 : Ex G9 (upd G9 wl (.lst (cutV ((sortS (ded xs)).map V.str) none (some (most : Int))))) := Ex.new fwl
        generalize upd G9 wl (.lst (cutV ((sortS (ded xs)).map V.str) none (some (most : Int)))) = G10 at W10 hw10 e10
        -- fewer windows
        refine ⟨_, rfl, s5, fun p np => ⟨w, .ref p, 5, c + 341, upd G10 p _, rfl, by omega, by omega, by omega, W10.new np, .inr ⟨p, _, rfl, .inl (SqL.of upd_same), rfl, fun v H2 hv W11 => ?_⟩⟩⟩
        obtain ⟨tm, htm, rfl⟩ := int_mem (is := [0, 0, 0, 1, 2]) hv
        have htm : 0 ≤ tm ∧ tm ≤ 2 := by
          simp only [List.mem_cons, List.mem_nil_iff, or_false] at htm
          omega
        have e11 : Ex G10 (upd G10 p (.lst [.int 0, .int 0, .int 0, .int 1, .int 2])) := Ex.new (W10.free np)
        have W11' : Wt w (c + 342) (upd G10 p (.lst [.int 0, .int 0, .int 0, .int 1, .int 2])) H2 := W11
        clear W11
        generalize upd G10 p (.lst [.int 0, .int 0, .int 0, .int 1, .int 2]) = G11 at W11' e11
        refine ⟨tm, rfl, by omega, by omega, ?_⟩
        refine fo_rng (fun j σ H' => ∃ (G' : Hp) (ws : List Str) (x6 : Option V), σ = [some (.ref w), some (.int most), some (.int n), some (.str z), some (.ref st), some (.ref rg), x6, x7, x8, some (.ref wl), none, none] ∧ Ex G9 G' ∧ Wt w (c + 342 + j) G' H' ∧
          G' wl = some (.lst (ws.map V.str)) ∧ Asc ws ∧ (∀ x ∈ ws, Stp n x) ∧ ws ≠ [] ∧ ws.length ≤ most) ?_ ?_ ?_
        · exact ⟨G11, ws0, _, rfl, e10.trans e11, W11', e11 _ _ hw10, asc0, stp0, ne0, le0⟩
        · rintro j σ H' hj ⟨G', ws, x6, rfl, e, W, hw, ha, hs, hne, hle⟩
          have hwH := W.e _ _ hw
          have lm : (ws.map V.str).length = ws.length := List.length_map ..
          refine ⟨_, rfl, wl, _, rfl, .inl (SqL.of hwH), _, _, rfl, rfl, _, rfl, ?_⟩
          by_cases h1 : (1 : Int) < ((ws.map V.str).length : Int)
          · rw [decide_eq_true h1]
            refine iteT ⟨_, rfl, .inl ⟨rfl, _, SqL.of hwH⟩, _, rfl, _, rfl, wl, _, rfl, .inl (SqL.of hwH), w, (ws.map V.str).length, _, G', rfl, by omega, by omega, by omega, W, fun i H2 hi W2 => ⟨wl, _, i, i, _, rfl, rfl, W2.e _ _ hw, by omega, by omega, ?_, List.getElem?_eq_getElem hi, ?_⟩⟩
            · exact seqIx (by omega)
            · refine ⟨upd G' wl (.lst ((ws.map V.str).eraseIdx i)), ws.eraseIdx i, _, rfl, Ex.mut e fwl, W2.mut hw, by rw [upd_same, map_eraseIdx], List.Pairwise.sublist (List.eraseIdx_sublist _ _) ha, fun x hx => hs x (List.mem_of_mem_eraseIdx hx), ?_, ?_⟩
              · intro h
                have h2 : (ws.eraseIdx i).length = 0 := by rw [h]; rfl
                rw [List.length_eraseIdx] at h2
                split at h2 <;> omega
              · have := List.length_eraseIdx_le ws i
                omega
          · rw [decide_eq_false h1]
            exact iteF ⟨G', ws, _, rfl, e, W.up (by omega), hw, ha, hs, hne, hle⟩
        · rintro σ H' ⟨G12, ws, x6, rfl, e12, W12, hw, ha, hs, hne, hle⟩
          have W12 := W12.up (show c + 342 + tm.toNat ≤ c + 344 by omega)
          have hrg12 : G12 rg = some (.lst (rs.map V.str)) := e12 _ _ (e9 _ _ (e8 _ _ (e7 _ _ hrg)))
          have hrgH := W12.e _ _ hrg12
          have hwH := W12.e _ _ hw
          refine ⟨_, rfl, rg, rfl, ⟨_, SqL.of hrgH⟩, fun D npD => ?_⟩
          refine lcs_lst (SqL.of hrgH) (fun r => decide ((minus (rnd n r) ws).length = 0)) PyData.str npD (by omega) (fun _ _ => rfl) (fun r H2 Y Z hr2 e hy hn => ?_) (fun Hc acc e hp ha2 => ?_)
          · have hr3 := hrs r hr2
            refine ⟨rfl, _, rfl, _, rfl, n, r, rfl, hr3.2.1, by have := hr3.2.2; omega, by omega, fun a Ha ea na hha => ⟨_, rfl, a, wl, rnd n r, ws, rfl, .inl (SqL.of hha), .inl (SqL.of (ea _ _ (e _ _ hwH))), by rw [rnd_len]; have := hr3.2.2; omega, fun b Hb eb nb hhb => ⟨b, _, rfl, .inl (SqL.of hhb), rfl, _, rfl, ?_⟩⟩⟩
            rw [List.length_map]
            cases hb : decide ((minus (rnd n r) ws).length = 0) with
            | true =>
              rw [decide_eq_true (show V.int ((minus (rnd n r) ws).length : Int) = V.int 0 by rw [of_decide_eq_true hb]; rfl)]
              exact iteT ⟨_, rfl, hy hb _ _ (ea.trans eb) (.str r)⟩
            | false =>
              rw [decide_eq_false (fun (z : V.int ((minus (rnd n r) ws).length : Int) = V.int 0) => of_decide_eq_false hb (by have z := V.int.inj z; omega))]
              exact iteF (hn hb _ (ea.trans eb))
          · have ha2 := strs_dpa ha2
            subst ha2
            obtain ⟨Gc, ec, Wc, hD, _⟩ := W12.newt e npD hp
            refine ⟨_, rfl, _, rfl, wl, _, rfl, .inl ⟨SqL.of (e _ _ hwH), fun l nl => ⟨s2, fun b nb => ⟨_, rfl, s2, fun T nT => ?_⟩⟩⟩⟩
            have W13 := Wc.new (o := .tup (ws.map V.str)) nl
            have W14 := W13.new (o := .tup [.int n, .ref l]) nb
            have W15 := W14.new (o := .tup [.ref b, .ref D]) nT
            have f1 := Wc.free nl
            have f2 := W13.free nb
            have f3 := W14.free nT
            have x12 := Ex.new (o := .tup [.int n, .ref l]) f2
            have x23 := Ex.new (o := .tup [.ref b, .ref D]) f3
            refine q T b D n ws _ _ _ ((((((eG6.trans e7).trans e8).trans e9).trans e12).trans ec).trans (((Ex.new f1).trans x12).trans x23)) (W15.up (by omega)) (SqT.of upd_same) (bookDp (SqT.of (x23 _ _ upd_same)) (SqT.of (x23 _ _ (x12 _ _ upd_same)))) (((Ex.new f1).trans (x12.trans x23)) _ _ hD) ⟨⟨hn2, hn6, ⟨hs, ha⟩, hne, by omega⟩, hle, fun r hr2 => hrs r (List.mem_filter.mp hr2).1, ?_⟩
            have := List.length_filter_le (fun r => decide ((minus (rnd n r) ws).length = 0)) rs
            omega
end

/-! ### lots -/
section
variable {P : Program} {w : World} {K : PySem.W.Frag} {mg : Str → Option Value} {base : Heap}
/-- a list of tuples of texts -/
def LotsAt (K : PySem.W.Frag) (H : Hp) (a : Addr) (lots : List (List Str)) : Prop := ∃ acc, H a = some (.lst acc) ∧ DpAll K H acc (lots.map strsT)
theorem LotsAt.ex {H H' : Hp} {a : Addr} {lots : List (List Str)} (e : Ex H H') (h : LotsAt K H a lots) : LotsAt K H' a lots := by
  obtain ⟨acc, h1, h2⟩ := h
  exact ⟨acc, e _ _ h1, dpa_ex e h2⟩
theorem noLots : ∀ (lots : List (List Str)), noLists (lots.map strsT) = true
  | [] => rfl
  | l :: lots => by
    show (noLists (l.map PyData.str) && noLists (lots.map strsT)) = true
    rw [noStrs, noLots lots]
    rfl
/-- lots of the windows, none of them all -/
structure LotsOk (ws : List Str) (lots : List (List Str)) : Prop where
  few : lots.length ≤ 1000
  sub : ∀ l ∈ lots, l.Sublist ws ∧ l.length < ws.length
def sp_law_all_lots (K : PySem.W.Frag) : Sp := fun vs H Q _ => ∃ (v : V) (ws : List Str), vs = [v] ∧ Dp K H v (strsT ws) ∧ ws.length ≤ 7 ∧ ∀ a H' lots, Ex H H' → H a = none → LotsAt K H' a lots → LotsOk ws lots → Q (.ref a) H'
theorem ok_law_all_lots (T : Tx K mg) : Ok P w K mg base CX0 1 "_law_all_lots" ["windows"] (sp_law_all_lots K) := by
  refine T.d_law_all_lots.ok sc_law_all_lots (fun vs H Q E h => ?_) (fun f cdv A outer s H vs Q E hG hr h => ?_)
  · obtain ⟨v, ws, rfl, _⟩ := h
    rfl
  · obtain ⟨v, ws, rfl, hW, hl, q⟩ := h
    obtain ⟨t, rfl, hS⟩ := dp_strsT hW
    refine ⟨_, (pss_cons (ps_set (i := 1) sc_law_all_lots.nd rfl (Or.inl rfl) (pe_lst (pa_cons (pe_tup pa_nil) pa_nil))) (pss_cons (ps_for PassesOwn.never rfl (pi_tupK (K := K) (pv 0)) (pg_name (i := 2) sc_law_all_lots.nd rfl (Or.inr rfl)) (pss_one (ps_set (i := 1) sc_law_all_lots.nd rfl (Or.inl rfl) (pe_op op_cat (pv 1) (pe_lc (own := [("lot", 3)]) (g := gName 3) (tt := tYes) rfl sc_law_all_lots.nd (pi_listK (K := K) (pv 1)) (blkOk_by (own := [("lot", 3)]) (N := n_law_all_lots) (sc := defScope s_law_all_lots) (by decide +kernel)) (fun _ _ _ _ _ => pg_name (i := 3) sc_law_all_lots.nd rfl (Or.inl rfl)) (fun _ _ _ _ _ => pts_nil) (fun _ _ _ _ _ => (pe_op (op_catAK (K := K)) (pv 3) (pe_tup (pa_cons (pv 2) pa_nil))))))))) (pss_one (ps_ret (pe_lc (own := [("lot", 3)]) (g := gName 3) rfl sc_law_all_lots.nd (pi_listK (K := K) (pv 1)) (blkOk_by (own := [("lot", 3)]) (N := n_law_all_lots) (sc := defScope s_law_all_lots) (by decide +kernel)) (fun _ _ _ _ _ => pg_name (i := 3) sc_law_all_lots.nd rfl (Or.inl rfl)) (fun _ _ _ _ _ => pts_one (pt_cmpR op_lt (pe_callB (call_lenK (K := K)) (by rfl) T.b_len PySem.boot_len (pa_cons (pv 3) pa_nil)) (pe_callB (call_lenK (K := K)) (by rfl) T.b_len PySem.boot_len (pa_cons (pv 0) pa_nil)) (nomark _))) (fun _ _ _ _ _ => (pv 3))))))), ?_⟩
    have s0 : 0 ≤ sizeLine := sz_of (by omega)
    have s1 : 1 ≤ sizeLine := sz_of (by omega)
    refine ⟨s0, fun p np => ⟨s1, fun q1 nq1 => ⟨_, rfl, t, rfl, ?_⟩⟩⟩
    refine fo_tp hS (fun i σ H' => ∃ fa x2 lots, σ = [some (.ref t), some (.ref fa), x2, none] ∧ Ex H H' ∧ H fa = none ∧ LotsAt K H' fa lots ∧ lots.length = 2 ^ i ∧ ∀ l ∈ lots, l.Sublist (ws.take i)) ?_ (fun i σ H' ⟨_, _, _, _, e, _⟩ => e) ?_ ?_
    · refine ⟨q1, none, [[]], rfl, (Ex.new np).trans (Ex.new nq1), fresh_back (Ex.new np) nq1, ⟨[.ref p], upd_same, .cons (.tup (SqT.of (Ex.new nq1 _ _ upd_same)) .nil) .nil⟩, rfl, fun l hl => by rw [List.mem_singleton.mp hl]; exact List.nil_sublist _⟩
    · rintro i x σ H' hi ⟨fa, x2, lots, rfl, e, nfa, ⟨acc, hfa, hacc⟩, hlen, hsub⟩
      obtain ⟨z, hz, rfl⟩ := str_at hi
      have hil : i < ws.length := (List.getElem?_eq_some_iff.mp hz).1
      have h128 : lots.length ≤ 128 := by
        rw [hlen]
        exact Nat.pow_le_pow_right (by decide) (by omega : i ≤ 7)
      have llen : ∀ l ∈ lots, l.length ≤ 7 := fun l hl => by
        have h1 := (hsub l hl).length_le
        rw [List.length_take] at h1
        omega
      refine ⟨_, rfl, _, rfl, fa, rfl, ⟨_, SqL.of hfa⟩, fun D np => ?_⟩
      refine lcd_lst (SqL.of hfa) hacc (fun _ => true) (fun l => strsT (l ++ [z])) np (by omega) (fun l _ => noStrs _) (fun l v H2 Y Z hl e2 hv hy _ => ?_) (fun H2 acc2 e2 hD ha2 => ?_)
      · obtain ⟨la, rfl, hla⟩ := dp_strsT hv
        refine ⟨rfl, lc_yes ⟨_, rfl, _, rfl, s1, fun p2 np2 => ?_⟩⟩
        have one : SqT K (upd H2 p2 (.tup [.str z])) p2 (([z] : List Str).map V.str) := SqT.of upd_same
        exact cat_strs (ex_t (Ex.new np2) hla) one (by have := llen l hl; show l.length + 1 ≤ _; omega) fun c H3 e3 hc => hy rfl _ _ ((Ex.new np2).trans e3) (dpT hc)
      · rw [filter_true] at ha2
        have l1 := dpa_len hacc
        have l2 := dpa_len ha2
        rw [List.length_map] at l1 l2
        refine ⟨fa, D, acc, acc2, rfl, rfl, e2 _ _ hfa, hD, sz_of (by omega), fun p3 np3 => ⟨p3, _, lots ++ lots.map (· ++ [z]), rfl, (e.trans e2).trans (Ex.new np3), fresh_back (e.trans e2) np3, ⟨_, upd_same, ?_⟩, ?_, ?_⟩⟩
        · rw [List.map_append, List.map_map]
          exact dpa_app (dpa_ex (e2.trans (Ex.new np3)) hacc) (dpa_ex (Ex.new np3) ha2)
        · rw [List.length_append, List.length_map, hlen, Nat.pow_succ]
          omega
        · intro l hl
          rw [take_snoc hz]
          rcases List.mem_append.mp hl with hl | hl
          · exact (hsub l hl).trans (List.sublist_append_left _ _)
          · obtain ⟨k, hk, rfl⟩ := List.mem_map.mp hl
            exact (hsub k hk).append (List.Sublist.refl _)
    · rintro σ H' ⟨fa, x2, lots, rfl, e, nfa, ⟨acc, hfa, hacc⟩, hlen, hsub⟩
      rw [List.length_map, take_len] at hsub
      rw [List.length_map] at hlen
      have h128 : lots.length ≤ 128 := by
        rw [hlen]
        exact Nat.pow_le_pow_right (by decide) hl
      refine ⟨_, rfl, fa, rfl, ⟨_, SqL.of hfa⟩, fun D np => ?_⟩
      refine lcd_lst (SqL.of hfa) hacc (fun l => decide (l.length < ws.length)) strsT np (by omega) (fun l _ => noStrs _) (fun l v H2 Y Z hl2 e2 hv hy hn => ?_) (fun H2 acc2 e2 hD ha2 => ?_)
      · obtain ⟨la, rfl, hla⟩ := dp_strsT hv
        refine ⟨rfl, _, rfl, _, _, rfl, .inr hla, _, rfl, t, _, rfl, .inr (ex_t (e.trans e2) hS), _, _, rfl, rfl, _, rfl, ?_⟩
        rw [List.length_map, List.length_map, show decide ((l.length : Int) < (ws.length : Int)) = decide (l.length < ws.length) from decide_eq_decide.mpr (by omega)]
        cases hb : decide (l.length < ws.length) with
        | true => exact iteT ⟨_, rfl, hy hb _ _ (Ex.refl _) (dpT hla)⟩
        | false => exact iteF (hn hb _ (Ex.refl _))
      · refine q D H2 _ (e.trans e2) (fresh_back e np) ⟨acc2, hD, ha2⟩ ⟨?_, fun l hl2 => ?_⟩
        · have := List.length_filter_le (fun l : List Str => decide (l.length < ws.length)) lots
          omega
        · obtain ⟨h1, h2⟩ := List.mem_filter.mp hl2
          exact ⟨hsub l h1, of_decide_eq_true h2⟩
end

section
variable {P : Program} {w : World} {K : PySem.W.Frag} {mg : Str → Option Value} {base : Heap}
theorem LotsAt.app {H : Hp} {a t : Addr} {lots : List (List Str)} {acc : List V} {l : List Str} (h1 : H a = some (.lst acc)) (h2 : DpAll K H acc (lots.map strsT)) (ht : SqT K H t (l.map V.str)) : LotsAt K (upd H a (.lst (acc ++ [.ref t]))) a (lots ++ [l]) := by
  have m : Mu a H (upd H a (.lst (acc ++ [.ref t]))) := fun q hq => upd_ne hq
  refine ⟨_, upd_same, ?_⟩
  rw [List.map_append]
  exact dpa_app (dpa_mu m h1 (noLots lots) h2) (dpa_one (dp_mu m h1 (noStrs l) (dpT ht)))
def sp_law_some_lots (K : PySem.W.Frag) : Sp := fun vs H Q _ => ∃ (w rl : Addr) (v : V) (n c : Nat) (ws rs : List Str) (G : Hp), vs = [.ref w, v, .ref rl] ∧ c ≤ 10000 ∧ Wt w c G H ∧ Dp K G v (bookD n ws) ∧ G rl = some (.lst (rs.map V.str)) ∧ Bk n ws ∧ (∀ r ∈ rs, Ring r) ∧ rs.length ≤ 10 ∧
  ∀ (a : Addr) (lots : List (List Str)) (G' H' : Hp), Ex G G' → Wt w (c + 1000) G' H' → LotsAt K G' a lots → LotsOk ws lots → Q (.ref a) H'
theorem ok_law_some_lots (T : Tx K mg) : Ok P w K mg base CX0 3 "_law_some_lots" ["well", "book", "rings"] (sp_law_some_lots K) := by
  refine T.d_law_some_lots.ok sc_law_some_lots (fun vs H Q E h => ?_) (fun f cdv A outer s H vs Q E hG hr h => ?_)
  · obtain ⟨w, rl, v, n, c, ws, rs, G, rfl, _⟩ := h
    rfl
  · obtain ⟨w, rl, v, n, c, ws, rs, G, rfl, hc, W, hB, hrl, B, hrs, lrs, q⟩ := h
    obtain ⟨bk, t, rfl, hb, ht⟩ := dp_book hB
    refine ⟨_, (pss_cons (ps_asg (pv 1) (pg_tup rfl (pgs_cons (pg_name (i := 3) sc_law_some_lots.nd rfl (Or.inl rfl)) (pgs_cons (pg_name (i := 4) sc_law_some_lots.nd rfl (Or.inr rfl)) pgs_nil)))) (pss_cons (ps_set (i := 5) sc_law_some_lots.nd rfl (Or.inl rfl) (pe_lst (pa_cons (pe_tup pa_nil) (pa_cons (pe_tup (pa_cons (pe_callO (ok_law_one_of T) hG (hr.mono (by decide)) (pa_cons (pv 0) (pa_cons (pv 4) pa_nil))) pa_nil)) pa_nil)))) (pss_cons (ps_for PassesOwn.never rfl (pi_range1 (by rfl) T.b_range (pa_cons pe_int pa_nil)) (pg_name (i := 6) sc_law_some_lots.nd rfl (Or.inl rfl)) (pss_cons (ps_set (i := 7) sc_law_some_lots.nd rfl (Or.inr rfl) (pe_callO (ok_law_one_of T) hG (hr.mono (by decide)) (pa_cons (pv 0) (pa_cons (pe_lst (pa_cons pe_int (pa_cons pe_int (pa_cons pe_int (pa_cons pe_int pa_nil))))) pa_nil)))) (pss_one (ps_expr (pe_bmK (K := K) PySem.F.plainAttrs_list PySem.F.slot_list_append PySem.F.type_list_append mt_append (pv 5) (pa_cons (pe_callTy (call_tupleK (K := K)) (by rfl) T.b_tuple (by decide +kernel) (pa_cons (pe_lc (own := [("window", 10)]) (g := gName 10) rfl sc_law_some_lots.nd (pi_tupK (K := K) (pv 4)) (blkOk_by (own := [("window", 10)]) (N := n_law_some_lots) (sc := defScope s_law_some_lots) (by decide +kernel)) (fun _ _ _ _ _ => pg_name (i := 10) sc_law_some_lots.nd rfl (Or.inl rfl)) (fun _ _ _ _ _ => pts_one (pt_cmpR op_eq (pe_callO (ok_law_pick T) hG (hr.mono (by decide)) (pa_cons (pv 0) (pa_cons (pv 7) pa_nil))) pe_int (nomark _))) (fun _ _ _ _ _ => (pv 10))) pa_nil)) pa_nil)))))) (pss_cons (ps_for PassesOwn.never rfl (pi_range1 (by rfl) T.b_range (pa_cons (pe_callB (call_min2 rfl) (by rfl) T.b_min (by decide +kernel) (pa_cons pe_int (pa_cons (pe_callB (call_lenK (K := K)) (by rfl) T.b_len PySem.boot_len (pa_cons (pv 2) pa_nil)) pa_nil))) pa_nil)) (pg_name (i := 6) sc_law_some_lots.nd rfl (Or.inl rfl)) (pss_cons (ps_set (i := 8) sc_law_some_lots.nd rfl (Or.inl rfl) (pe_op op_cat (pe_callO (ok_law_round T) hG (hr.mono (by decide)) (pa_cons (pv 3) (pa_cons (pe_callO (ok_law_one_of T) hG (hr.mono (by decide)) (pa_cons (pv 0) (pa_cons (pv 2) pa_nil))) pa_nil))) (pe_callO (ok_law_round T) hG (hr.mono (by decide)) (pa_cons (pv 3) (pa_cons (pe_callO (ok_law_one_of T) hG (hr.mono (by decide)) (pa_cons (pv 0) (pa_cons (pv 2) pa_nil))) pa_nil))))) (pss_cons (ps_if (pt_cmpR op_eq (pv 6) pe_int (nomark _)) (pss_one (ps_set (i := 8) sc_law_some_lots.nd rfl (Or.inl rfl) (pe_callO (ok_law_round T) hG (hr.mono (by decide)) (pa_cons (pv 3) (pa_cons (pe_ix (ix_listK (K := K)) (pv 2) pe_int (fun _ _ => rfl)) pa_nil))))) pss_nil) (pss_one (ps_expr (pe_bmK (K := K) PySem.F.plainAttrs_list PySem.F.slot_list_append PySem.F.type_list_append mt_append (pv 5) (pa_cons (pe_callTy (call_tupleK (K := K)) (by rfl) T.b_tuple (by decide +kernel) (pa_cons (pe_callO (ok_law_without T) hG (hr.mono (by decide)) (pa_cons (pv 4) (pa_cons (pv 8) pa_nil))) pa_nil)) pa_nil))))))) (pss_one (ps_ret (pe_lc (own := [("lot", 9)]) (g := gName 9) rfl sc_law_some_lots.nd (pi_listK (K := K) (pv 5)) (blkOk_by (own := [("lot", 9)]) (N := n_law_some_lots) (sc := defScope s_law_some_lots) (by decide +kernel)) (fun _ _ _ _ _ => pg_name (i := 9) sc_law_some_lots.nd rfl (Or.inl rfl)) (fun _ _ _ _ _ => pts_one (pt_cmpR op_lt (pe_callB (call_lenK (K := K)) (by rfl) T.b_len PySem.boot_len (pa_cons (pv 9) pa_nil)) (pe_callB (call_lenK (K := K)) (by rfl) T.b_len PySem.boot_len (pa_cons (pv 4) pa_nil)) (nomark _))) (fun _ _ _ _ _ => (pv 9))))))))), ?_⟩
    have few := B.few
    have hi6 := B.hi
    have wne : 0 < ws.length := List.length_pos_iff.mpr B.ne
    have lmap : (ws.map V.str).length = ws.length := List.length_map ..
    have lmr : (rs.map V.str).length = rs.length := List.length_map ..
    have s0 : 0 ≤ sizeLine := sz_of (by omega)
    have s1 : 1 ≤ sizeLine := sz_of (by omega)
    have s2 : 2 ≤ sizeLine := sz_of (by omega)
    have s4 : 4 ≤ sizeLine := sz_of (by omega)
    refine ⟨_, rfl, bk, _, rfl, ex_t W.e hb, rfl, _, _, rfl, _, _, rfl, rfl, ?_⟩
    refine ⟨s0, fun p np => ⟨_, rfl, _, rfl, w, .ref t, ws.length, c, upd G p _, rfl, by omega, by omega, by omega, W.new np, .inr ⟨t, _, rfl, .inr (ex_t (Ex.new (W.free np)) ht), lmap, fun v H2 hv W2 => ?_⟩⟩⟩
    obtain ⟨x0, hx0, rfl⟩ := str_mem hv
    refine ⟨s1, fun p1 np1 => ⟨s2, fun fa nfa => ?_⟩⟩
    have e1 : Ex G (upd G p (.tup [])) := Ex.new (W.free np)
    have f1 := W2.free np1
    have W3 := W2.new (o := .tup [.str x0]) np1
    have f2 := W3.free nfa
    have W4 := W3.new (o := .lst [.ref p, .ref p1]) nfa
    have e4 : Ex G (upd (upd (upd G p (.tup [])) p1 (.tup [.str x0])) fa (.lst [.ref p, .ref p1])) := (e1.trans (Ex.new f1)).trans (Ex.new f2)
    have gfa : G fa = none := fresh_back (e1.trans (Ex.new f1)) f2
    have L0 : LotsAt K (upd (upd (upd G p (.tup [])) p1 (.tup [.str x0])) fa (.lst [.ref p, .ref p1])) fa [[], [x0]] :=
      ⟨_, upd_same, .cons (.tup (SqT.of (Ex.new f2 _ _ (Ex.new f1 _ _ upd_same))) .nil) (.cons (dpT (ws := [x0]) (SqT.of (Ex.new f2 _ _ upd_same))) .nil)⟩
    generalize upd (upd (upd G p (.tup [])) p1 (.tup [.str x0])) fa (.lst [.ref p, .ref p1]) = G4 at W4 e4 L0
    generalize upd (upd H2 p1 (.tup [.str x0])) fa (.lst [.ref p, .ref p1]) = H4 at W4
    refine ⟨4, rfl, by omega, by omega, ?_⟩
    refine fo_rng (fun j σ H' => ∃ (G' : Hp) (lots : List (List Str)) (x6 x7 : Option V), σ = [some (.ref w), some (.ref bk), some (.ref rl), some (.int n), some (.ref t), some (.ref fa), x6, x7, none, none, none] ∧ Ex G G' ∧ Wt w (c + 1 + 61 * j) G' H' ∧ LotsAt K G' fa lots ∧ lots.length = 2 + j ∧ ∀ l ∈ lots, l.Sublist ws) ?_ ?_ ?_
    · refine ⟨G4, [[], [x0]], none, none, rfl, e4, W4, L0, rfl, fun l hl => ?_⟩
      simp only [List.mem_cons, List.mem_nil_iff, or_false] at hl
      rcases hl with rfl | rfl
      · exact List.nil_sublist _
      · exact List.singleton_sublist.mpr hx0
    · rintro j σ H' hj ⟨G', lots, x6, x7, rfl, e, W, L, hlen, hsub⟩
      have hj4 : j < 4 := by omega
      refine ⟨_, rfl, s4, fun p np => ⟨w, .ref p, 4, c + 1 + 61 * j, upd G' p _, rfl, by omega, by omega, by omega, W.new np, .inr ⟨p, _, rfl, .inl (SqL.of upd_same), rfl, fun v H2 hv W2 => ?_⟩⟩⟩
      obtain ⟨sh, hsh, rfl⟩ := int_mem (is := [2, 3, 8, 20]) hv
      obtain ⟨sn, rfl, hs1, hs2⟩ : ∃ sn : Nat, sh = (sn : Int) ∧ 1 ≤ sn ∧ sn ≤ 20 := by
        simp only [List.mem_cons, List.mem_nil_iff, or_false] at hsh
        exact ⟨sh.toNat, by omega, by omega, by omega⟩
      have e5 : Ex G' (upd G' p (.lst [.int 2, .int 3, .int 8, .int 20])) := Ex.new (W.free np)
      have W2' : Wt w (c + 1 + 61 * j + 1) (upd G' p (.lst [.int 2, .int 3, .int 8, .int 20])) H2 := W2
      clear W2
      have L5 := L.ex e5
      generalize upd G' p (.lst [.int 2, .int 3, .int 8, .int 20]) = G5 at W2' e5 L5
      obtain ⟨acc, hfa, hacc⟩ := L5
      have t5 := ex_t (e.trans e5) ht
      refine ⟨_, rfl, .inl ⟨rfl, _, SqL.of (W2'.e _ _ hfa)⟩, _, rfl, t, rfl, ⟨_, ex_t W2'.e t5⟩, fun D npD => ?_⟩
      refine lc_w (K := K) (G0 := G5) (src_tup t5) (by omega) (fun i => c + 1 + 61 * j + 1 + i) (fun i ds => ∃ l : List Str, ds = l.map PyData.str ∧ l.Sublist (ws.take i)) W2' npD ⟨[], rfl, List.nil_sublist _⟩ (fun i x G2 H2 ds Y Z hi e6 W6 it r hy hn => ?_) (fun i ds ⟨l, hl, hl2⟩ => by
        have := hl2.length_le
        rw [List.length_take] at this
        rw [hl, List.length_map]
        omega) (fun G7 H7 acc7 ds e7 W7 hD7 ha7 nls ⟨l, hl, hl2⟩ => ?_)
      · obtain ⟨z, hz, rfl⟩ := str_at it
        obtain ⟨l, rfl, hl2⟩ := r
        have hiw : i < ws.length := by omega
        refine ⟨rfl, _, rfl, _, rfl, w, sn, c + 1 + 61 * j + 1 + i, G2, rfl, hs1, by omega, by omega, W6, fun k H3 hk W7 => ⟨rfl, _, rfl, ?_⟩⟩
        by_cases h0 : V.int (k : Int) = V.int 0
        · rw [decide_eq_true h0]
          exact iteT ⟨_, rfl, hy _ (.str z) G2 _ (Ex.refl _) W7 (.str z) rfl ⟨l ++ [z], by rw [List.map_append]; rfl, by rw [take_snoc hz]; exact hl2.append (List.Sublist.refl _)⟩⟩
        · rw [decide_eq_false h0]
          exact iteF (hn G2 _ (Ex.refl _) W7 ⟨l, rfl, by rw [take_snoc hz]; exact hl2.trans (List.sublist_append_left _ _)⟩)
      · subst hl
        have hs := strs_dpa ha7
        subst hs
        rw [lmap, take_len] at hl2
        refine ⟨D, _, rfl, .inl ⟨SqL.of (W7.e _ _ hD7), fun tl ntl => ?_⟩⟩
        have W8 := W7.new (o := .tup (l.map V.str)) ntl
        have f8 := W7.free ntl
        have hfa8 := Ex.new (o := .tup (l.map V.str)) f8 _ _ (e7 _ _ hfa)
        have la := dpa_len hacc
        rw [List.length_map] at la
        refine ⟨fa, acc, .ref tl, rfl, rfl, W8.e _ _ hfa8, sz_lt (by omega), ?_⟩
        refine ⟨_, lots ++ [l], _, _, rfl, Ex.mut ((e.trans (e5.trans e7)).trans (Ex.new f8)) gfa, (W8.mut hfa8).up (by omega), LotsAt.app hfa8 (dpa_ex (e7.trans (Ex.new f8)) hacc) (SqT.of upd_same), ?_, ?_⟩
        · rw [List.length_append]
          have : [l].length = 1 := rfl
          omega
        · exact fun k hk => (List.mem_append.mp hk).elim (hsub k) fun h => by rw [List.mem_singleton.mp h]; exact hl2
    · rintro σ H' ⟨G5, lots, x6, x7, rfl, e5, W5, L5, hlen, hsub⟩
      have hrl5 := e5 _ _ hrl
      refine ⟨_, rfl, rl, _, rfl, .inl (SqL.of (W5.e _ _ hrl5)), 3, _, rfl, _, rfl, ?_, ?_, ?_⟩
      · split <;> omega
      · split <;> omega
      have hm : ((if ((rs.map V.str).length : Int) < 3 then ((rs.map V.str).length : Int) else 3)).toNat ≤ 3 ∧ (0 < ((if ((rs.map V.str).length : Int) < 3 then ((rs.map V.str).length : Int) else 3)).toNat → 0 < rs.length) := by
        rw [lmr]
        split <;> omega
      generalize ((if ((rs.map V.str).length : Int) < 3 then ((rs.map V.str).length : Int) else 3)).toNat = m at hm
      have W5 := W5.up (show c + 1 + 61 * (4 : Int).toNat ≤ c + 300 by have : (4 : Int).toNat = 4 := rfl; omega)
      have hl4 : lots.length = 6 := hlen
      refine fo_rng (fun j σ H' => ∃ (G' : Hp) (lots : List (List Str)) (x6 x8 : Option V), σ = [some (.ref w), some (.ref bk), some (.ref rl), some (.int n), some (.ref t), some (.ref fa), x6, x7, x8, none, none] ∧ Ex G G' ∧ Wt w (c + 300 + 2 * j) G' H' ∧ LotsAt K G' fa lots ∧ lots.length = 6 + j ∧ ∀ l ∈ lots, l.Sublist ws) ?_ ?_ ?_
      · exact ⟨G5, lots, x6, none, rfl, e5, W5, L5, hl4, hsub⟩
      · rintro j σ H' hj ⟨G', lots, x6, x8, rfl, e, W, L, hlen, hsub⟩
        have rne : 0 < rs.length := hm.2 (by omega)
        have hj3 : j < 3 := by omega
        have hrl1 := e _ _ hrl
        refine ⟨_, rfl, _, rfl, _, rfl, w, .ref rl, rs.length, c + 300 + 2 * j, G', rfl, by omega, by omega, by omega, W, .inr ⟨rl, _, rfl, .inl (SqL.of hrl1), lmr, fun v H2 hv W2 => ?_⟩⟩
        obtain ⟨r1, hr1, rfl⟩ := str_mem hv
        have R1 := hrs r1 hr1
        refine ⟨n, r1, rfl, R1.2.1, by have := R1.2.2; omega, by omega, fun a1 H3 e3 na1 ha1 => ?_⟩
        obtain ⟨G3, eg3, W3, hg3, _⟩ := W2.newt e3 na1 ha1
        refine ⟨_, rfl, _, rfl, _, rfl, w, .ref rl, rs.length, c + 300 + 2 * j + 1, G3, rfl, by omega, by omega, by omega, W3, .inr ⟨rl, _, rfl, .inl (SqL.of (eg3 _ _ hrl1)), lmr, fun v H4 hv W4 => ?_⟩⟩
        obtain ⟨r2, hr2, rfl⟩ := str_mem hv
        have R2 := hrs r2 hr2
        refine ⟨n, r2, rfl, R2.2.1, by have := R2.2.2; omega, by omega, fun a2 H5 e5 na2 ha2 => ?_⟩
        obtain ⟨G6, eg6, W6, hg6, _⟩ := W4.newt e5 na2 ha2
        refine ⟨a1, a2, _, _, rfl, rfl, W6.e _ _ (eg6 _ _ hg3), ha2, ?_, fun kp nkp => ?_⟩
        · rw [List.length_map, List.length_map, rnd_len, rnd_len]
          have := R1.2.2
          have := R2.2.2
          exact sz_of (by omega)
        have W7 := W6.new (o := .lst ((rnd n r1).map V.str ++ (rnd n r2).map V.str)) nkp
        have f7 := W6.free nkp
        have hk7 : (upd G6 kp (.lst ((rnd n r1).map V.str ++ (rnd n r2).map V.str))) kp = some (.lst ((rnd n r1 ++ rnd n r2).map V.str)) := by rw [upd_same, List.map_append]
        have e7 : Ex G' (upd G6 kp (.lst ((rnd n r1).map V.str ++ (rnd n r2).map V.str))) := (eg3.trans eg6).trans (Ex.new f7)
        generalize upd G6 kp (.lst ((rnd n r1).map V.str ++ (rnd n r2).map V.str)) = G7 at W7 hk7 e7
        generalize upd H5 kp (.lst ((rnd n r1).map V.str ++ (rnd n r2).map V.str)) = H7 at W7
        generalize rnd n r1 ++ rnd n r2 = ks at hk7
        refine ⟨_, rfl, rfl, _, rfl, ?_⟩
        by_cases h0 : V.int (0 + (j : Int)) = V.int 0
        · rw [decide_eq_true h0]
          have h00 : rs[0]? = some rs[0] := List.getElem?_eq_getElem rne
          have R0 := hrs rs[0] (List.getElem_mem rne)
          refine iteT ⟨_, rfl, _, rfl, rl, _, 0, _, rfl, rfl, SqL.of (W7.e _ _ (e7 _ _ hrl1)), atI_of (j := 0) rfl (get_map rne), n, rs[0], rfl, R0.2.1, by have := R0.2.2; omega, by omega, fun kp2 H8 e8 nk8 hk8 => ?_⟩
          obtain ⟨G8, eg8, W8, hg8, _⟩ := W7.newt e8 nk8 hk8
          obtain ⟨acc, hfa, hacc⟩ := L.ex (e7.trans eg8)
          refine ⟨_, rfl, .inl ⟨rfl, _, SqL.of (W8.e _ _ hfa)⟩, _, rfl, _, rfl, t, kp2, ws, _, rfl, .inr (ex_t (((e.trans e7).trans eg8).trans W8.e) ht), .inl (SqL.of (W8.e _ _ hg8)), by omega, fun mn H9 e9 nm9 hm9 => ?_⟩
          obtain ⟨G9, eg9, W9, hg9, _⟩ := W8.newt e9 nm9 hm9
          refine ⟨mn, _, rfl, .inl ⟨SqL.of hm9, fun tl ntl => ?_⟩⟩
          have W10 := W9.new (o := .tup ((minus ws (rnd n rs[0])).map V.str)) ntl
          have f10 := W9.free ntl
          have hfa10 := Ex.new (o := .tup ((minus ws (rnd n rs[0])).map V.str)) f10 _ _ (eg9 _ _ hfa)
          have la := dpa_len hacc
          rw [List.length_map] at la
          refine ⟨fa, acc, .ref tl, rfl, rfl, W10.e _ _ hfa10, sz_lt (by omega), ?_⟩
          refine ⟨_, lots ++ [minus ws (rnd n rs[0])], _, _, rfl, Ex.mut ((((e.trans e7).trans eg8).trans eg9).trans (Ex.new f10)) gfa, (W10.mut hfa10).up (by omega), LotsAt.app hfa10 (dpa_ex (eg9.trans (Ex.new f10)) hacc) (SqT.of upd_same), ?_, ?_⟩
          · rw [List.length_append]
            have : [minus ws (rnd n rs[0])].length = 1 := rfl
            omega
          · exact fun k hk => (List.mem_append.mp hk).elim (hsub k) fun h => by rw [List.mem_singleton.mp h]; exact List.filter_sublist
        · rw [decide_eq_false h0]
          refine iteF ?_
          obtain ⟨acc, hfa, hacc⟩ := L.ex e7
          refine ⟨_, rfl, .inl ⟨rfl, _, SqL.of (W7.e _ _ hfa)⟩, _, rfl, _, rfl, t, kp, ws, ks, rfl, .inr (ex_t ((e.trans e7).trans W7.e) ht), .inl (SqL.of (W7.e _ _ hk7)), by omega, fun mn H9 e9 nm9 hm9 => ?_⟩
          obtain ⟨G9, eg9, W9, hg9, _⟩ := W7.newt e9 nm9 hm9
          refine ⟨mn, _, rfl, .inl ⟨SqL.of hm9, fun tl ntl => ?_⟩⟩
          have W10 := W9.new (o := .tup ((minus ws ks).map V.str)) ntl
          have f10 := W9.free ntl
          have hfa10 := Ex.new (o := .tup ((minus ws ks).map V.str)) f10 _ _ (eg9 _ _ hfa)
          have la := dpa_len hacc
          rw [List.length_map] at la
          refine ⟨fa, acc, .ref tl, rfl, rfl, W10.e _ _ hfa10, sz_lt (by omega), ?_⟩
          refine ⟨_, lots ++ [minus ws ks], _, _, rfl, Ex.mut (((e.trans e7).trans eg9).trans (Ex.new f10)) gfa, (W10.mut hfa10).up (by omega), LotsAt.app hfa10 (dpa_ex (eg9.trans (Ex.new f10)) hacc) (SqT.of upd_same), ?_, ?_⟩
          · rw [List.length_append]
            have : [minus ws ks].length = 1 := rfl
            omega
          · exact fun k hk => (List.mem_append.mp hk).elim (hsub k) fun h => by rw [List.mem_singleton.mp h]; exact List.filter_sublist
      · rintro σ H' ⟨G6, lots, x6, x8, rfl, e6, W6, ⟨acc, hfa, hacc⟩, hlen, hsub⟩
        have hfaH := W6.e _ _ hfa
        have haccH := dpa_ex W6.e hacc
        refine ⟨_, rfl, fa, rfl, ⟨_, SqL.of hfaH⟩, fun D np => ?_⟩
        refine lcd_lst (SqL.of hfaH) haccH (fun l => decide (l.length < ws.length)) strsT np (by omega) (fun l _ => noStrs _) (fun l v H2 Y Z hl2 e2 hv hy hn => ?_) (fun H2 acc2 e2 hD ha2 => ?_)
        · obtain ⟨la, rfl, hla⟩ := dp_strsT hv
          refine ⟨rfl, _, rfl, _, _, rfl, .inr hla, _, rfl, t, _, rfl, .inr (ex_t ((e6.trans W6.e).trans e2) ht), _, _, rfl, rfl, _, rfl, ?_⟩
          rw [List.length_map, List.length_map, show decide ((l.length : Int) < (ws.length : Int)) = decide (l.length < ws.length) from decide_eq_decide.mpr (by omega)]
          cases hb : decide (l.length < ws.length) with
          | true => exact iteT ⟨_, rfl, hy hb _ _ (Ex.refl _) (dpT hla)⟩
          | false => exact iteF (hn hb _ (Ex.refl _))
        · obtain ⟨G7, eg7, W7, rfl⟩ := W6.ex e2
          obtain ⟨gg, mm, kk, _, hw⟩ := W7.h
          obtain ⟨_, _, _, _, hw6⟩ := W6.h
          have hL : LotsAt K (hide w H2) D (lots.filter fun l => decide (l.length < ws.length)) := ⟨acc2, by rw [hide_ne (ne_of_none hw6 np).symm]; exact hD, dpa_hide hw (noLots _) ha2⟩
          refine q D _ _ H2 (e6.trans eg7) (W7.up (by omega)) hL ⟨?_, fun l hl2 => ?_⟩
          · have := List.length_filter_le (fun l : List Str => decide (l.length < ws.length)) lots
            omega
          · obtain ⟨h1, h2⟩ := List.mem_filter.mp hl2
            exact ⟨hsub l h1, of_decide_eq_true h2⟩
end

/-! ### the law's judgements -/
section
variable {P : Program} {w : World} {K : PySem.W.Frag} {mg : Str → Option Value} {base : Heap}
theorem shwB (b : Bool) : Shw (.bool b) := shw_of rfl (by show 0 ≤ 60; omega) (sz_of (by show 5 ≤ 1000000; omega))
theorem tameStrs : ∀ {ws : List Str}, (∀ x ∈ ws, Word x) → tames (ws.map PyData.str) = true
  | [], _ => rfl
  | x :: ws, h => by
    show (tame (.str x) && tames (ws.map PyData.str)) = true
    rw [tameStrs fun y hy => h y (List.mem_cons_of_mem _ hy), Bool.and_true]
    show x.cps.toList.all (fun c => decide (c < 128)) = true
    refine List.all_eq_true.mpr fun c hc => decide_eq_true ?_
    have := h x (List.mem_cons_self ..) c hc
    omega
theorem wideStrs : ∀ {ws : List Str} {m : Nat}, (∀ x ∈ ws, x.length ≤ m) → wides (ws.map PyData.str) ≤ ws.length * (10 * m + 4)
  | [], m, _ => by
    show 0 ≤ _
    omega
  | x :: ws, m, h => by
    have h1 := h x (List.mem_cons_self ..)
    have ih := wideStrs (ws := ws) (m := m) fun y hy => h y (List.mem_cons_of_mem _ hy)
    show (10 * x.length + 2) + 2 + wides (ws.map PyData.str) ≤ (ws.length + 1) * (10 * m + 4)
    rw [Nat.add_mul, Nat.one_mul]
    omega
theorem shwL {ws : List Str} (h : Ws ws) : Shw (strsL ws) := shw_of (tameStrs fun x hx => (h.wd x hx).1) (by show PyData.depthAll (ws.map PyData.str) + 1 ≤ 60; rw [depthStrs]; omega) (by
  have := wideStrs (ws := ws) (m := 100) fun x hx => (h.wd x hx).2
  have h2 := h.few
  have h3 : ws.length * (10 * 100 + 4) ≤ 1000 * 1004 := Nat.mul_le_mul h2 (Nat.le_refl _)
  have h4 : (2000000 : Nat) < sizeLine := by decide
  show wides (ws.map PyData.str) + 4 ≤ _
  omega)
theorem Bk.lng {n : Nat} {ws : List Str} (B : Bk n ws) : Lng ws := ⟨n, B.lo, fun x hx => (B.win.1 x hx).2⟩
theorem win_sub {n : Nat} {ws l : List Str} (h : Win n ws) (s : l.Sublist ws) : Win n l := ⟨fun x hx => h.1 x (s.subset hx), List.Pairwise.sublist s h.2⟩
def sp_law_lots_right (K : PySem.W.Frag) : Sp := fun vs H Q _ => ∃ (v : V) (la : Addr) (n : Nat) (ws : List Str) (lots : List (List Str)), vs = [v, .ref la] ∧ Dp K H v (bookD n ws) ∧ LotsAt K H la lots ∧ Bk n ws ∧ LotsOk ws lots ∧ RetD K (.bool true) H Q
theorem ok_law_lots_right (T : Tx K mg) : Ok P w K mg base CX0 7 "_law_lots_right" ["book", "lots"] (sp_law_lots_right K) := by
  refine T.d_law_lots_right.ok sc_law_lots_right (fun vs H Q E h => ?_) (fun f cdv A outer s H vs Q E hG hr h => ?_)
  · obtain ⟨v, la, n, ws, lots, rfl, _⟩ := h
    rfl
  · obtain ⟨v, la, n, ws, lots, rfl, hB, ⟨acc, hla, hacc⟩, B, LO, q⟩ := h
    refine ⟨_, (pss_cons (ps_for PassesOwn.never rfl (pi_enumK (K := K) T.b_enumerate (pa_cons (pv 1) pa_nil)) (pg_tup rfl (pgs_cons (pg_name (i := 2) sc_law_lots_right.nd rfl (Or.inl rfl)) (pgs_cons (pg_name (i := 3) sc_law_lots_right.nd rfl (Or.inl rfl)) pgs_nil))) (pss_cons (ps_set (i := 4) sc_law_lots_right.nd rfl (Or.inl rfl) (pe_ifExp (pt_cmpR op_eq (pe_op op_modN (pe_callTy call_int1 (by rfl) T.b_int (by decide +kernel) (pa_cons (pv 2) pa_nil)) pe_int) pe_int (nomark _)) (pe_callKO (ok_may_go T) T.k_may_go_windows_book hG (hr.mono (by decide)) (pk_cons (pv 3) (pk_cons (pv 0) pk_nil))) (pe_callO (ok_may_go T) hG (hr.mono (by decide)) (pa_cons (pv 0) (pa_cons (pv 3) pa_nil))))) (pss_one (ps_if (pt_cmpR op_ne (pe_callB (cr_reprK (K := K) hG hr.units) (by rfl) T.b_repr (by decide +kernel) (pa_cons (pv 4) pa_nil)) (pe_callB (cr_reprK (K := K) hG hr.units) (by rfl) T.b_repr (by decide +kernel) (pa_cons (pe_callO (ok_law_hangs T) hG (hr.mono (by decide)) (pa_cons (pe_callO (ok_law_without T) hG (hr.mono (by decide)) (pa_cons (pe_ix (ix_tupK (K := K)) (pv 0) pe_int (fun _ _ => rfl)) (pa_cons (pv 3) pa_nil))) pa_nil)) pa_nil)) (nomark _)) (pss_one (ps_ret pe_bl)) pss_nil)))) (pss_one (ps_ret pe_bl))), ?_⟩
    have few := B.few
    obtain ⟨bk, t, rfl, hb, ht⟩ := dp_book hB
    refine ⟨_, rfl, la, _, rfl, fo_enum (SqL.of hla) (fun i σ H' => ∃ x2 x3 x4, σ = [some (.ref bk), some (.ref la), x2, x3, x4] ∧ Ex H H') ⟨_, _, _, rfl, Ex.refl _⟩ (fun i σ H' ⟨_, _, _, _, e⟩ => e) ?_ ?_⟩
    · rintro i y T2 σ H1 H2 hi ⟨x2, x3, x4, rfl, e⟩ e2 hT
      obtain ⟨d, hd1, hd2⟩ := dpa_get hacc hi
      rw [List.getElem?_map] at hd1
      cases hx : lots[i]? with
      | none => rw [hx] at hd1; cases hd1
      | some l =>
        rw [hx] at hd1
        obtain rfl : strsT l = d := Option.some.inj hd1
        obtain ⟨lsub, llt⟩ := LO.sub l (List.mem_of_getElem? hx)
        have eH2 := e.trans e2
        have hl2 := dp_ex eH2 hd2
        obtain ⟨tl, rfl, htl⟩ := dp_strsT hl2
        have lin : ∀ x ∈ l, x ∈ ws := fun x hx => lsub.subset hx
        refine ⟨T2, _, rfl, SqT.of hT, rfl, _, _, rfl, _, _, rfl, rfl, ?_⟩
        -- what the program says
        refine ⟨_, rfl, .inl ⟨_, rfl, _, 3, rfl, rfl, by show (3 : Int) ≠ 0; decide, rfl, _, rfl, ?_⟩⟩
        have tail : ∀ H3, Ex H2 H3 → True := fun _ _ => trivial
        by_cases h0 : V.int (((i : Nat) : Int).fmod 3) = V.int 0
        · rw [decide_eq_true h0]
          refine iteT ⟨_, rfl, _, rfl, rfl, _, _, n, ws, l, rfl, dp_ex eH2 hB, hl2, B, win_sub B.win lsub, lin, llt, fun told H3 e3 ht3 => ?_⟩
          refine ⟨_, rfl, told, _, rfl, ht3, shwB _, _, rfl, _, _, _, _, rfl, rfl, ex_t (eH2.trans e3) hb, atI_of (j := 1) rfl rfl, _, rfl, t, tl, ws, l, rfl, .inr (ex_t (eH2.trans e3) ht), .inr (ex_t e3 htl), by omega, fun m H4 e4 nm hm => ?_⟩
          refine ⟨m, minus ws l, rfl, .inl (SqL.of hm), B.ws.minus, fun b H5 e5 hb5 => ⟨b, _, rfl, hb5, shwB _, rfl, _, rfl, ?_⟩⟩
          rw [decide_eq_true rfl]
          exact iteF ⟨_, _, _, rfl, (eH2.trans e3).trans (e4.trans e5)⟩
        · rw [decide_eq_false h0]
          refine iteF ⟨_, rfl, _, rfl, _, _, n, ws, l, rfl, dp_ex eH2 hB, hl2, B, win_sub B.win lsub, lin, llt, fun told H3 e3 ht3 => ?_⟩
          refine ⟨_, rfl, told, _, rfl, ht3, shwB _, _, rfl, _, _, _, _, rfl, rfl, ex_t (eH2.trans e3) hb, atI_of (j := 1) rfl rfl, _, rfl, t, tl, ws, l, rfl, .inr (ex_t (eH2.trans e3) ht), .inr (ex_t e3 htl), by omega, fun m H4 e4 nm hm => ?_⟩
          refine ⟨m, minus ws l, rfl, .inl (SqL.of hm), B.ws.minus, fun b H5 e5 hb5 => ⟨b, _, rfl, hb5, shwB _, rfl, _, rfl, ?_⟩⟩
          rw [decide_eq_true rfl]
          exact iteF ⟨_, _, _, rfl, (eH2.trans e3).trans (e4.trans e5)⟩
    · rintro σ H1 ⟨x2, x3, x4, rfl, e⟩
      exact q _ _ e (.bl true)
theorem Ws.filter {ws : List Str} (h : Ws ws) (p : Str → Bool) : Ws (ws.filter p) := ⟨fun x hx => h.wd x (List.mem_filter.mp hx).1, Nat.le_trans (List.length_filter_le ..) h.few⟩
def sp_law_needed_right (K : PySem.W.Frag) : Sp := fun vs H Q _ => ∃ (v : V) (n : Nat) (ws : List Str), vs = [v] ∧ Dp K H v (bookD n ws) ∧ Bk n ws ∧ Hang ws ∧ RetD K (.bool true) H Q
theorem ok_law_needed_right (T : Tx K mg) : Ok P w K mg base CX0 7 "_law_needed_right" ["book"] (sp_law_needed_right K) := by
  refine T.d_law_needed_right.ok sc_law_needed_right (fun vs H Q E h => ?_) (fun f cdv A outer s H vs Q E hG hr h => ?_)
  · obtain ⟨v, n, ws, rfl, _⟩ := h
    rfl
  · obtain ⟨v, n, ws, rfl, hB, B, hh, q⟩ := h
    refine ⟨_, (pss_cons (ps_set (i := 1) sc_law_needed_right.nd rfl (Or.inl rfl) (pe_callB (cr_reprK (K := K) hG hr.units) (by rfl) T.b_repr (by decide +kernel) (pa_cons (pe_lc (own := [("window", 3)]) (g := gName 3) rfl sc_law_needed_right.nd (pi_tupK (K := K) (pe_ix (ix_tupK (K := K)) (pv 0) pe_int (fun _ _ => rfl))) (blkOk_by (own := [("window", 3)]) (N := n_law_needed_right) (sc := defScope s_law_needed_right) (by decide +kernel)) (fun _ _ _ _ _ => pg_name (i := 3) sc_law_needed_right.nd rfl (Or.inl rfl)) (fun _ _ _ _ _ => pts_one (pt_not (pt_val (pe_callO (ok_law_hangs T) hG (hr.mono (by decide)) (pa_cons (pe_callO (ok_law_without T) hG (hr.mono (by decide)) (pa_cons (pe_ix (ix_tupK (K := K)) (pv 0) pe_int (fun _ _ => rfl)) (pa_cons (pe_tup (pa_cons (pv 3) pa_nil)) pa_nil))) pa_nil))))) (fun _ _ _ _ _ => (pv 3))) pa_nil))) (pss_cons (ps_set (i := 2) sc_law_needed_right.nd rfl (Or.inl rfl) (pe_callO (ok_needed T) hG (hr.mono (by decide)) (pa_cons (pv 0) pa_nil))) (pss_cons (ps_if (pt_cmpR op_ne (pe_callB (cr_reprK (K := K) hG hr.units) (by rfl) T.b_repr (by decide +kernel) (pa_cons (pv 2) pa_nil)) (pv 1) (nomark _)) (pss_one (ps_ret pe_bl)) pss_nil) (pss_cons (ps_expr (pe_bmK (K := K) PySem.F.plainAttrs_list PySem.F.slot_list_append PySem.F.type_list_append mt_append (pv 2) (pa_cons pe_str pa_nil))) (pss_cons (ps_asg pe_str (pg_sub (pv 2) pe_int set_list)) (pss_one (ps_ret (pe_cmpR op_eq (pe_callB (cr_reprK (K := K) hG hr.units) (by rfl) T.b_repr (by decide +kernel) (pa_cons (pe_callKO (ok_needed T) T.k_needed_book hG (hr.mono (by decide)) (pk_cons (pv 0) pk_nil)) pa_nil)) (pv 1) (nomark _))))))))), ?_⟩
    have few := B.few
    have s1 : 1 ≤ sizeLine := sz_of (by omega)
    obtain ⟨bk, t, rfl, hb, ht⟩ := dp_book hB
    have hN : Ws (neededL ws) := B.ws.filter _
    refine ⟨_, rfl, _, _, _, _, rfl, rfl, hb, atI_of (j := 1) rfl rfl, t, rfl, ⟨_, ht⟩, fun D np => ?_⟩
    refine lcs_tp ht (fun x => !scB (minus ws [x])) PyData.str np (by omega) (fun _ _ => rfl) (fun z H2 Y Z hz e hy hn => ?_) (fun H1 acc e hp ha => ?_)
    · refine ⟨rfl, _, rfl, _, _, _, _, rfl, rfl, ex_t e hb, atI_of (j := 1) rfl rfl, _, rfl, s1, fun p np2 => ⟨t, p, ws, [z], rfl, .inr (ex_t (e.trans (Ex.new np2)) ht), .inr (SqT.of upd_same), by omega, fun m H3 e3 nm hm => ⟨m, minus ws [z], rfl, .inl (SqL.of hm), B.ws.minus, fun c H4 e4 hc => ?_⟩⟩⟩
      obtain rfl := dp_bl hc
      refine ⟨_, rfl, ?_⟩
      have ex := ((Ex.new (o := .tup [.str z]) np2).trans e3).trans e4
      cases hb2 : scB (minus ws [z]) with
      | true => exact iteF (hn (by show (!scB (minus ws [z])) = false; rw [hb2]; rfl) _ ex)
      | false => exact iteT ⟨_, rfl, hy (by show (!scB (minus ws [z])) = true; rw [hb2]; rfl) _ _ ex (.str z)⟩
    · have ha := strs_dpa ha
      subst ha
      refine ⟨.ref D, strsL (neededL ws), rfl, dpL (SqL.of hp), shwL hN, ?_⟩
      refine ⟨_, rfl, .ref bk, n, ws, rfl, dp_ex e hB, B, hh, fun fa H2 e2 nfa hfa => ?_⟩
      refine ⟨_, rfl, .ref fa, strsL (neededL ws), rfl, dpL (SqL.of hfa), shwL hN, _, rfl, rfl, _, rfl, ?_⟩
      rw [decide_eq_true rfl]
      refine iteF ⟨_, rfl, .inl ⟨rfl, _, SqL.of hfa⟩, fa, _, .str "later", rfl, rfl, hfa, sz_lt (by rw [List.length_map]; have := List.length_filter_le (fun x => !scB (minus ws [x])) ws; unfold neededL; omega), ?_⟩
      have e3 : Ex H (upd H2 fa (.lst ((neededL ws).map V.str ++ [.str "later"]))) := Ex.mut (e.trans e2) (fresh_back e nfa)
      refine ⟨_, rfl, fa, _, 0, 0, rfl, rfl, upd_same, ?_, ?_⟩
      · rw [List.length_append]
        show (if (0 : Int) ≤ 0 then (if (0 : Int) < (((neededL ws).map V.str).length + 1 : Nat) then some (0 : Int).toNat else none) else _) = _
        rw [if_pos (by decide), if_pos (by omega)]
        rfl
      · rw [upd_upd]
        have e4 : Ex H (upd H2 fa (.lst (((neededL ws).map V.str ++ [V.str "later"]).set 0 (V.str "sooner")))) := Ex.mut (e.trans e2) (fresh_back e nfa)
        refine ⟨_, rfl, rfl, .ref bk, n, ws, rfl, dp_ex e4 hB, B, hh, fun fb H5 e5 nfb hfb => ?_⟩
        refine ⟨.ref fb, strsL (neededL ws), rfl, dpL (SqL.of hfb), shwL hN, _, rfl, rfl, q _ _ (e4.trans e5) ?_⟩
        rw [decide_eq_true rfl]
        exact .bl true
def sp_law_rest_right (K : PySem.W.Frag) : Sp := fun vs H Q _ => ∃ (v u : V) (n : Nat) (ws : List Str), vs = [v, u] ∧ Dp K H v (bookD n ws) ∧ Dp K H u (strsT (restL ws)) ∧ Bk n ws ∧ Hang ws ∧ RetD K (.bool true) H Q
theorem ok_law_rest_right (T : Tx K mg) : Ok P w K mg base CX0 7 "_law_rest_right" ["book", "found"] (sp_law_rest_right K) := by
  refine T.d_law_rest_right.ok sc_law_rest_right (fun vs H Q E h => ?_) (fun f cdv A outer s H vs Q E hG hr h => ?_)
  · obtain ⟨v, u, n, ws, rfl, _⟩ := h
    rfl
  · obtain ⟨v, u, n, ws, rfl, hB, hU, B, hh, q⟩ := h
    refine ⟨_, (pss_cons (ps_if (PW.pt (pw_or (pt_not (pt_val (pe_callB (call_isiK2 (K := K)) (by rfl) T.b_isinstance (by decide +kernel) (pa_cons (pv 1) (pa_cons (pe_gty (T := "tuple") T.b_tuple (by decide +kernel)) pa_nil))))) (pw_or1 (pt_cmpR (op_neDK (K := K) hr.units) (pe_callTy (call_listK (K := K)) (by rfl) T.b_list (by decide +kernel) (pa_cons (pv 1) pa_nil)) (pe_lc (own := [("window", 3)]) (g := gName 3) rfl sc_law_rest_right.nd (pi_tupK (K := K) (pe_ix (ix_tupK (K := K)) (pv 0) pe_int (fun _ _ => rfl))) (blkOk_by (own := [("window", 3)]) (N := n_law_rest_right) (sc := defScope s_law_rest_right) (by decide +kernel)) (fun _ _ _ _ _ => pg_name (i := 3) sc_law_rest_right.nd rfl (Or.inl rfl)) (fun _ _ _ _ _ => pts_one (pt_cmpR (op_inK (K := K)) (pv 3) (pv 1) (by rfl))) (fun _ _ _ _ _ => (pv 3))) (nomark _))))) (pss_one (ps_ret pe_bl)) pss_nil) (pss_cons (ps_set (i := 2) sc_law_rest_right.nd rfl (Or.inr rfl) (pe_callO (ok_law_without T) hG (hr.mono (by decide)) (pa_cons (pe_ix (ix_tupK (K := K)) (pv 0) pe_int (fun _ _ => rfl)) (pa_cons (pv 1) pa_nil)))) (pss_cons (ps_if (pt_not (pt_val (pe_callO (ok_law_hangs T) hG (hr.mono (by decide)) (pa_cons (pv 2) pa_nil)))) (pss_one (ps_ret pe_bl)) pss_nil) (pss_one (ps_ret (pe_not (pe_callB (cr_anyK (K := K) rfl) (by rfl) T.b_any (by decide +kernel) (pa_cons (pe_lc (own := [("window", 3)]) (g := gName 3) (tt := tYes) rfl sc_law_rest_right.nd (pi_listK (K := K) (pv 2)) (blkOk_by (own := [("window", 3)]) (N := n_law_rest_right) (sc := defScope s_law_rest_right) (by decide +kernel)) (fun _ _ _ _ _ => pg_name (i := 3) sc_law_rest_right.nd rfl (Or.inl rfl)) (fun _ _ _ _ _ => pts_nil) (fun _ _ _ _ _ => (pe_callO (ok_law_hangs T) hG (hr.mono (by decide)) (pa_cons (pe_callO (ok_law_without T) hG (hr.mono (by decide)) (pa_cons (pv 2) (pa_cons (pe_tup (pa_cons (pv 3) pa_nil)) pa_nil))) pa_nil)))) pa_nil)))))))), ?_⟩
    have few := B.few
    have s1 : 1 ≤ sizeLine := sz_of (by omega)
    obtain ⟨bk, t, rfl, hb, ht⟩ := dp_book hB
    obtain ⟨fu, rfl, hf⟩ := dp_strsT hU
    obtain ⟨r1, r2, r3⟩ := rest_right (asc_nodup B.win.2) B.lng ⟨B.ne, hh⟩
    refine ⟨_, rfl, _, _, _, _, true, rfl, .ty _, tyT hf, kit_ty (by decide +kernel), true, rfl, iteF ?_⟩
    refine ⟨_, rfl, fu, _, rfl, .inr hf, fun l nl => ?_⟩
    have e1 := Ex.new (H := H) (o := .lst ((restL ws).map V.str)) nl
    refine ⟨_, rfl, _, _, _, _, rfl, rfl, ex_t e1 hb, atI_of (j := 1) rfl rfl, t, rfl, ⟨_, ex_t e1 ht⟩, fun D np => ?_⟩
    refine lcs_tp (ex_t e1 ht) (fun x => decide (x ∈ restL ws)) PyData.str np (by omega) (fun _ _ => rfl) (fun z H2 Y Z hz e hy hn => ?_) (fun H1 acc e hp ha => ?_)
    · refine ⟨rfl, _, rfl, _, rfl, _, _, rfl, .inr (ex_t (e1.trans e) hf), rfl, flat_strs _, _, rfl, ?_⟩
      show (fun b H4 => _) (inV (V.str z) ((restL ws).map V.str)) H2
      rw [inV_strs]
      cases hb2 : decide (z ∈ restL ws) with
      | true => exact iteT ⟨_, rfl, hy hb2 _ _ (Ex.refl _) (.str z)⟩
      | false => exact iteF (hn hb2 _ (Ex.refl _))
    · rw [← r1] at ha
      have ha := strs_dpa ha
      subst ha
      have rin : ∀ x ∈ restL ws, x ∈ ws := fun x hx => by
        rw [r1] at hx
        exact (List.mem_filter.mp hx).1
      have wd : ∀ x ∈ restL ws, Word x := fun x hx => (B.ws.wd x (rin x hx)).1
      refine ⟨strsL (restL ws), strsL (restL ws), dpL (SqL.of (e _ _ upd_same)), dpL (SqL.of hp), shapedL wd, shapedL wd, _, rfl, ?_⟩
      rw [show (!PyData.eqv (strsL (restL ws)) (strsL (restL ws))) = false from by
        show (!PyData.eqvAll ((restL ws).map PyData.str) ((restL ws).map PyData.str)) = false
        rw [eqvStrs, decide_eq_true rfl]
        rfl]
      have ex1 := e1.trans e
      refine iteF ⟨_, rfl, _, _, _, _, rfl, rfl, ex_t ex1 hb, atI_of (j := 1) rfl rfl, _, rfl, t, fu, ws, restL ws, rfl, .inr (ex_t ex1 ht), .inr (ex_t ex1 hf), by omega, fun lf H2 e2 nlf hlf => ?_⟩
      have lle := minus_len ws (restL ws)
      refine ⟨_, rfl, lf, minus ws (restL ws), rfl, .inl (SqL.of hlf), B.ws.minus, fun b H3 e3 hb3 => ?_⟩
      obtain rfl := dp_bl hb3
      refine ⟨_, rfl, ?_⟩
      rw [scB_iff.mpr r2]
      refine iteF ⟨_, rfl, lf, rfl, ⟨_, SqL.of (e3 _ _ hlf)⟩, fun D2 np2 => ?_⟩
      refine lcs_lst (SqL.of (e3 _ _ hlf)) (fun _ => true) (fun x => PyData.bool (scB (minus (minus ws (restL ws)) [x]))) np2 (by omega) (fun _ _ => rfl) (fun z H4 Y Z hz e4 hy _ => ?_) (fun H4 acc e4 hp4 ha4 => ?_)
      · refine ⟨rfl, lc_yes ⟨_, rfl, _, rfl, s1, fun p np3 => ⟨lf, p, minus ws (restL ws), [z], rfl, .inl (SqL.of ((e3.trans (e4.trans (Ex.new np3))) _ _ hlf)), .inr (SqT.of upd_same), by omega, fun m H5 e5 nm hm => ⟨m, _, rfl, .inl (SqL.of hm), B.ws.minus.minus, fun c H6 e6 hc => hy rfl _ _ (((Ex.new np3).trans e5).trans e6) hc⟩⟩⟩⟩
      · rw [filter_true] at ha4
        have ha4 := bls_all ha4
        subst ha4
        refine ⟨_, _, rfl, SqL.of hp4, _, rfl, q _ _ ((ex1.trans e2).trans (e3.trans e4)) ?_⟩
        have : (((minus ws (restL ws)).map fun x => scB (minus (minus ws (restL ws)) [x])).any id) = false := by
          rw [List.any_map]
          refine Bool.eq_false_iff.mpr fun z => ?_
          obtain ⟨x, hx, hs⟩ := List.any_eq_true.mp z
          exact r3 x hx (scB_iff.mp hs)
        rw [this]
        exact .bl true
end

/-! ### a book without a ring text -/
section
variable {P : Program} {w : World} {K : PySem.W.Frag} {mg : Str → Option Value} {base : Heap}
theorem ini_fn (T : Tx K mg) (hP : FileIs P xs.file) : ∃ fd, FnOk P w K mg base CX0 1 (xI K xs) fd ["self", "value"] (sp_init K (xD K xs) (xI K xs) "value") ∧ Binds K fd ["self", "value"] [] := by
  obtain ⟨fd, S, b⟩ := T.x_ini hP
  exact ⟨fd, sup_fn (pl := (do return (← (pure (some false) : Sem (Option Bool))).getD true)) S rfl rfl rfl rfl rfl rfl (fun env e => rfl) (fun env e => by unfold interactive; rw [e] <;> rfl) (fun env e => rfl) (fun env e => rfl) (by decide) rfl rfl rfl, b⟩
def sp_need_some_ringX (K : PySem.W.Frag) (C : Addr) : Sp := fun vs H _ E => ∃ (v : V) (n : Nat) (ws : List Str), vs = [v] ∧ Dp K H v (bookD n ws) ∧ Bk n ws ∧ ¬ Hang ws ∧ ∀ d H', Ex H H' → H' d = some (.xd [("value", v)]) → E (.ref C) (some d) H'
theorem ok_need_some_ringX (T : Tx K mg) (hP : FileIs P xs.file) {C : Addr} (hC : mg "NoRing" = some (.ref C)) : Ok P w K mg base (L2.CX P w) 5 "need_some_ring" ["book"] (sp_need_some_ringX K C) := by
  obtain ⟨C2, hC2, XF, _, _⟩ := T.x_NoRing
  obtain rfl : C = C2 := by
    rw [hC] at hC2
    cases hC2
    rfl
  obtain ⟨fi, Fi, bi⟩ := ini_fn (base := base) (w := w) T hP
  refine T.d_need_some_ring.okX sc_need_some_ring (fun vs H Q E h => ?_) (fun f cdv A outer s H vs Q E hG hr h => ?_)
  · obtain ⟨v, n, ws, rfl, _⟩ := h
    rfl
  · obtain ⟨v, n, ws, rfl, hB, B, hh, q⟩ := h
    refine ⟨_, (pss_cons (ps_expr (pe_callO (ok_need_book T) hG (hr.mono (by decide)) (pa_cons (pv 0) pa_nil))) (pss_one (ps_if (pt_cmpR op_notN (pe_callO (ok_a_closed_lot T) hG (hr.mono (by decide)) (pa_cons (pv 0) pa_nil)) pe_non (nomark _)) (pss_one (ps_raise rfl (takes_of rfl rfl rfl rfl) (pmk_oex XF.ox XF.ini XF.fty Fi (hr.mono (by decide)) bi .nil pass0 rfl hC (pa_cons (pv 0) pa_nil)))) pss_nil))), ?_⟩
    refine ⟨_, rfl, v, n, ws, rfl, hB, B, fun H1 e1 => ⟨_, rfl, v, n, ws, rfl, dp_ex e1 hB, B.ws, fun c H2 e2 hc => ?_⟩⟩
    obtain ⟨l, hl2⟩ := closedD_not hh
    rw [hl2] at hc
    obtain ⟨b, rfl, _⟩ := dp_strsT hc
    refine ⟨rfl, _, rfl, iteT ⟨_, rfl, by show 1 ≤ 1000; omega, fun a na => ⟨a, C, v, rfl, XF, upd_same, fun dx hdx ndx => ?_⟩⟩⟩
    rw [upd_ne ndx] at hdx
    refine ⟨rfl, dx, [("value", v)], upd_same, ?_, hdx, ?_⟩
    · rw [upd_ne ndx, upd_same]
    · refine q dx _ (fun z o hz => ?_) upd_same
      have hz2 := (e1.trans e2) z o hz
      have z1 : z ≠ dx := ne_of_none hz2 hdx
      have z2 : z ≠ a := ne_of_none hz2 na
      rw [upd_ne z1, del_ne z2, upd_ne z2, upd_ne z1, upd_ne z2]
      exact hz2
def sp_failX (K : PySem.W.Frag) (C : Addr) : Sp := sp_need_some_ringX K C
theorem ok_neededX (T : Tx K mg) (hP : FileIs P xs.file) {C : Addr} (hC : mg "NoRing" = some (.ref C)) : Ok P w K mg base (L2.CX P w) 6 "needed" ["book"] (sp_need_some_ringX K C) := by
  refine T.d_needed.okX sc_needed (fun vs H Q E h => ?_) (fun f cdv A outer s H vs Q E hG hr h => ?_)
  · obtain ⟨v, n, ws, rfl, _⟩ := h
    rfl
  · obtain ⟨v, n, ws, rfl, q⟩ := h
    refine ⟨_, (pss_cons (ps_expr (pe_callX (ok_need_some_ringX T hP hC) hG (hr.mono (by decide)) (passes_call (takes_of rfl rfl rfl rfl) fun _ _ _ _ h => h) (pa_cons (pv 0) pa_nil))) (pss_one (ps_ret (pe_lc (own := [("window", 1)]) (g := gName 1) rfl sc_needed.nd (pi_tupK (K := K) (pe_ix (ix_tupK (K := K)) (pv 0) pe_int (fun _ _ => rfl))) (blkOk_by (own := [("window", 1)]) (N := n_needed) (sc := defScope s_needed) (by decide +kernel)) (fun _ _ _ _ _ => pg_name (i := 1) sc_needed.nd rfl (Or.inl rfl)) (fun _ _ _ _ _ => pts_one (pt_not (pt_val (pe_callO (ok_can_go T) hG (hr.mono (by decide)) (pa_cons (pv 0) (pa_cons (pe_tup (pa_cons (pv 1) pa_nil)) pa_nil)))))) (fun _ _ _ _ _ => (pv 1)))))), ?_⟩
    exact ⟨_, rfl, v, n, ws, rfl, q⟩
theorem ok_restX (T : Tx K mg) (hP : FileIs P xs.file) {C : Addr} (hC : mg "NoRing" = some (.ref C)) : Ok P w K mg base (L2.CX P w) 6 "rest" ["book"] (sp_need_some_ringX K C) := by
  refine T.d_rest.okX sc_rest (fun vs H Q E h => ?_) (fun f cdv A outer s H vs Q E hG hr h => ?_)
  · obtain ⟨v, n, ws, rfl, _⟩ := h
    rfl
  · obtain ⟨v, n, ws, rfl, q⟩ := h
    refine ⟨_, (pss_cons (ps_expr (pe_callX (ok_need_some_ringX T hP hC) hG (hr.mono (by decide)) (passes_call (takes_of rfl rfl rfl rfl) fun _ _ _ _ h => h) (pa_cons (pv 0) pa_nil))) (pss_cons (ps_set (i := 1) sc_rest.nd rfl (Or.inl rfl) (pe_tup pa_nil)) (pss_cons (ps_for (passes_of rfl) rfl (pi_tupK (K := K) (pe_ix (ix_tupK (K := K)) (pv 0) pe_int (fun _ _ => rfl))) (pg_name (i := 2) sc_rest.nd rfl (Or.inl rfl)) (pss_one (ps_if (pt_val (pe_callO (ok_can_go T) hG (hr.mono (by decide)) (pa_cons (pv 0) (pa_cons (pe_op (op_catAK (K := K)) (pv 1) (pe_tup (pa_cons (pv 2) pa_nil))) pa_nil)))) (pss_one (ps_set (i := 1) sc_rest.nd rfl (Or.inl rfl) (pe_op (op_catAK (K := K)) (pv 1) (pe_tup (pa_cons (pv 2) pa_nil))))) pss_nil))) (pss_one (ps_ret (pv 1)))))), ?_⟩
    exact ⟨_, rfl, v, n, ws, rfl, q⟩
end

section
variable {P : Program} {w : World} {K : PySem.W.Frag} {mg : Str → Option Value} {base : Heap}
def sp_law_caught (K : PySem.W.Frag) (C : Addr) : Sp := fun vs H Q _ => ∃ (v : V) (b : Bool) (n : Nat) (ws : List Str), vs = [v, .bl b] ∧ Dp K H v (bookD n ws) ∧ Bk n ws ∧ ¬ Hang ws ∧
  ∀ a d H', Ex H H' → H' a = some (exK a (.ref C) (some d)) → H' d = some (.xd [("value", v)]) → Q (.ref a) H'
theorem ok_law_caught (T : Tx K mg) (hP : FileIs P xs.file) {C : Addr} (hC : mg "NoRing" = some (.ref C)) : Ok P w K mg base CX0 7 "_law_caught" ["book", "asks_rest"] (sp_law_caught K C) := by
  obtain ⟨C2, hC2, XF, _, xm⟩ := T.x_NoRing
  obtain rfl : C = C2 := by
    rw [hC] at hC2
    cases hC2
    rfl
  refine T.d_law_caught.ok sc_law_caught (fun vs H Q E h => ?_) (fun f cdv A outer s H vs Q E hG hr h => ?_)
  · obtain ⟨v, b, n, ws, rfl, _⟩ := h
    rfl
  · obtain ⟨v, b, n, ws, rfl, hB, B, hh, q⟩ := h
    refine ⟨_, (pss_cons (ps_set (i := 2) sc_law_caught.nd rfl (Or.inl rfl) pe_non) (pss_cons (ps_try_keep (i := 4) rfl rfl sc_law_caught.nd rfl rfl rfl ⟨rfl, by decide, .inl hC⟩ takesF (fun W pn xe tk po => (pss_one (ps_set (i := 3) sc_law_caught.nd rfl (Or.inl rfl) (pe_ifExp (pt_val (pv 1)) (pe_callXS (ok_restX T hP hC) hG (hr.mono (by decide)) (fun σ => passAt tk σ) (pa_cons (pv 0) pa_nil)) (pe_callXS (ok_neededX T hP hC) hG (hr.mono (by decide)) (fun σ => passAt tk σ) (pa_cons (pv 0) pa_nil)))))) (fun a oe cls d pn hz hv => (pss_one (ps_set (i := 2) sc_law_caught.nd rfl (Or.inl rfl) (pv 4))))) (pss_one (ps_ret (pv 2))))), ?_⟩
    have last : ∀ d H', Ex H H' → H' d = some (.xd [("value", v)]) → ∀ a, H' a = none → Q (.ref a) (upd H' a (exK a (.ref C) (some d))) := fun d H' e hd a na => q a d _ (e.trans (Ex.new na)) upd_same (Ex.new na _ _ hd)
    cases b with
    | true => 
      refine ⟨_, rfl, _, rfl, iteT ⟨_, rfl, v, n, ws, rfl, hB, B, hh, fun d H' e hd => ⟨true, xm, And.intro (fun z => nomatch z) (fun _ a na => ⟨_, rfl, _, rfl, last d _ e hd a na⟩)⟩⟩⟩
    | false => 
      refine ⟨_, rfl, _, rfl, iteF ⟨_, rfl, v, n, ws, rfl, hB, B, hh, fun d H' e hd => ⟨true, xm, And.intro (fun z => nomatch z) (fun _ a na => ⟨_, rfl, _, rfl, last d _ e hd a na⟩)⟩⟩⟩
end

section
variable {P : Program} {w : World} {K : PySem.W.Frag} {mg : Str → Option Value} {base : Heap}
theorem shwBook {n : Nat} {ws : List Str} (hn : n ≤ 100) (h : Ws ws) : Shw (bookD n ws) := by
  have hwd : ∀ x ∈ ws, Word x := fun x hx => (h.wd x hx).1
  refine shw_of ?_ ?_ ?_
  · show (decide ((n : Int).natAbs < 2 ^ 200) && (tames (ws.map PyData.str) && true)) = true
    rw [tameStrs hwd, decide_eq_true (by rw [Int.natAbs_natCast]; exact Nat.lt_of_le_of_lt hn (by decide))]
    rfl
  · show max 0 (max (PyData.depthAll (ws.map PyData.str) + 1) 0) + 1 ≤ 60
    rw [depthStrs]
    decide
  · have := wideStrs (ws := ws) (m := 100) fun x hx => (h.wd x hx).2
    have h2 := h.few
    have h3 : ws.length * (10 * 100 + 4) ≤ 1000 * 1004 := Nat.mul_le_mul h2 (Nat.le_refl _)
    have h4 : (2000000 : Nat) < sizeLine := by decide
    show 300 + 2 + ((wides (ws.map PyData.str) + 4) + 2 + 0) + 4 ≤ _
    omega
def sp_law_book_right (K : PySem.W.Frag) : Sp := fun vs H Q _ => ∃ (v : V) (la : Addr) (n : Nat) (ws : List Str) (lots : List (List Str)), vs = [v, .ref la] ∧ Dp K H v (bookD n ws) ∧ LotsAt K H la lots ∧ Bk n ws ∧ LotsOk ws lots ∧ RetD K (.bool true) H Q
theorem ok_law_book_right (T : Tx K mg) (hP : FileIs P xs.file) : Ok P w K mg base CX0 8 "_law_book_right" ["book", "lots"] (sp_law_book_right K) := by
  obtain ⟨C, hC, XF, XA, _⟩ := T.x_NoRing
  refine T.d_law_book_right.ok sc_law_book_right (fun vs H Q E h => ?_) (fun f cdv A outer s H vs Q E hG hr h => ?_)
  · obtain ⟨v, la, n, ws, lots, rfl, _⟩ := h
    rfl
  · obtain ⟨v, la, n, ws, lots, rfl, hB, hL, B, LO, q⟩ := h
    refine ⟨_, (pss_cons (ps_if (pt_not (pt_val (pe_callO (ok_law_lots_right T) hG (hr.mono (by decide)) (pa_cons (pv 0) (pa_cons (pv 1) pa_nil))))) (pss_one (ps_ret pe_bl)) pss_nil) (pss_cons (ps_if (pt_val (pe_callO (ok_law_hangs T) hG (hr.mono (by decide)) (pa_cons (pe_ix (ix_tupK (K := K)) (pv 0) pe_int (fun _ _ => rfl)) pa_nil))) (pss_cons (ps_if (pt_not (pt_val (pe_callO (ok_law_needed_right T) hG (hr.mono (by decide)) (pa_cons (pv 0) pa_nil)))) (pss_one (ps_ret pe_bl)) pss_nil) (pss_one (ps_ret (pe_and (pe_callO (ok_law_rest_right T) hG (hr.mono (by decide)) (pa_cons (pv 0) (pa_cons (pe_callO (ok_rest T) hG (hr.mono (by decide)) (pa_cons (pv 0) pa_nil)) pa_nil))) (pe_one (pe_callO (ok_law_rest_right T) hG (hr.mono (by decide)) (pa_cons (pv 0) (pa_cons (pe_callKO (ok_rest T) T.k_rest_book hG (hr.mono (by decide)) (pk_cons (pv 0) pk_nil)) pa_nil)))))))) pss_nil) (pss_cons (ps_for PassesOwn.never rfl (pi_listK (K := K) (pe_lst (pa_cons pe_bl (pa_cons pe_bl pa_nil)))) (pg_name (i := 2) sc_law_book_right.nd rfl (Or.inl rfl)) (pss_cons (ps_set (i := 3) sc_law_book_right.nd rfl (Or.inl rfl) (pe_callO (ok_law_caught T hP hC) hG (hr.mono (by decide)) (pa_cons (pv 0) (pa_cons (pv 2) pa_nil)))) (pss_one (ps_if (PW.pt (pw_or (pt_cmpR op_isN (pv 3) pe_non (nomark _)) (pw_or1 (pt_cmpR op_ne (pe_callB (cr_reprK (K := K) hG hr.units) (by rfl) T.b_repr (by decide +kernel) (pa_cons (pe_kf (pv 3)) pa_nil)) (pe_callB (cr_reprK (K := K) hG hr.units) (by rfl) T.b_repr (by decide +kernel) (pa_cons (pv 0) pa_nil)) (nomark _))))) (pss_one (ps_ret pe_bl)) pss_nil)))) (pss_one (ps_ret pe_bl))))), ?_⟩
    refine ⟨_, rfl, _, rfl, v, la, n, ws, lots, rfl, hB, hL, B, LO, fun c H1 e1 hc => ?_⟩
    obtain rfl := dp_bl hc
    refine ⟨_, rfl, iteF ?_⟩
    obtain ⟨bk, t, rfl, hb, ht⟩ := dp_book (dp_ex e1 hB)
    refine ⟨_, rfl, _, _, _, _, rfl, rfl, hb, atI_of (j := 1) rfl rfl, t, ws, rfl, .inr ht, B.ws, fun c H2 e2 hc => ?_⟩
    obtain rfl := dp_bl hc
    refine ⟨_, rfl, ?_⟩
    have e12 := e1.trans e2
    have hB2 := dp_ex e12 hB
    cases hs : scB ws with
    | true =>
      have hh := (scB_iff.mp hs).2
      refine iteT ⟨_, rfl, _, n, ws, rfl, hB2, B, hh, fun c H3 e3 hc => ?_⟩
      obtain rfl := dp_bl hc
      refine ⟨_, rfl, iteF ⟨_, rfl, _, rfl, _, n, ws, rfl, dp_ex e3 hB2, B, hh, fun u H4 e4 hu => ⟨_, _, n, ws, rfl, dp_ex (e3.trans e4) hB2, hu, B, hh, fun c H5 e5 hc => ?_⟩⟩⟩
      obtain rfl := dp_bl hc
      have e345 := (e3.trans e4).trans e5
      refine ⟨true, rfl, iteT ⟨_, rfl, _, rfl, rfl, _, n, ws, rfl, dp_ex e345 hB2, B, hh, fun u H6 e6 hu => ⟨_, _, n, ws, rfl, dp_ex (e345.trans e6) hB2, hu, B, hh, fun c H7 e7 hc => q _ _ ((e12.trans (e345.trans e6)).trans e7) hc⟩⟩⟩
    | false =>
      have hh : ¬ Hang ws := fun z => by
        rw [scB_hang B.ne z] at hs
        cases hs
      refine iteF ?_
      refine (show tSeq _ _ _ _ _ from ⟨sz_of (by show 2 ≤ 1000000; omega), fun ba nba => ⟨ba, rfl, ?_⟩⟩)
      have e0 := e12.trans (Ex.new (o := .lst [.bl true, .bl false]) nba)
      refine fo_lst (Hb := upd H2 ba (.lst [.bl true, .bl false])) (xs := [.bl true, .bl false]) (SqL.of upd_same) (fun i σ H' => ∃ x2 x3, σ = [some (.ref bk), some (.ref la), x2, x3] ∧ Ex (upd H2 ba (.lst [.bl true, .bl false])) H') ⟨_, _, rfl, Ex.refl _⟩ (fun i σ H' ⟨_, _, _, e⟩ => e) ?_ ?_
      · rintro i x σ H' hi ⟨x2, x3, rfl, e⟩
        obtain ⟨b, rfl⟩ : ∃ b, x = .bl b := by
          have hm := List.mem_of_getElem? hi
          simp only [List.mem_cons, List.mem_nil_iff, or_false] at hm
          exact hm.elim (fun z => ⟨_, z⟩) fun z => ⟨_, z⟩
        have e1 := e0.trans e
        refine ⟨_, rfl, _, rfl, _, b, n, ws, rfl, dp_ex e1 hB, B, hh, fun ea d H3 e3 hea hd => ?_⟩
        have hBd := dp_ex (e1.trans e3) hB
        have shw := shwBook (n := n) (by have := B.hi; omega) B.ws
        refine ⟨_, rfl, rfl, ?_⟩
        refine ⟨_, rfl, _, rfl, ea, C, d, _, _, rfl, hea, hd, rfl, XA, XF.fld, .ref bk, bookD n ws, rfl, hBd, shw, _, rfl, .ref bk, bookD n ws, rfl, hBd, shw, rfl, _, rfl, ?_⟩
        rw [decide_eq_true rfl]
        exact iteF ⟨_, _, rfl, e.trans e3⟩
      · rintro σ H' ⟨x2, x3, rfl, e⟩
        exact q _ _ (e0.trans e) (.bl true)
end

section
variable {P : Program} {w : World} {K : PySem.W.Frag} {mg : Str → Option Value} {base : Heap}
def spLaw (K : PySem.W.Frag) : Sp := fun vs H Q _ => ∃ (a : Addr) (ns : List Int), vs = [.ref a] ∧ SqL K H a (ns.map V.int) ∧ ns.length ≤ 63 ∧ ∀ H', Q (.bl true) H'
theorem ok_law (T : Tx K mg) (hP : FileIs P xs.file) : Ok P w K mg base CX0 9 "law" ["script"] (spLaw K) := by
  refine T.d_law.ok sc_law (fun vs H Q E h => ?_) (fun f cdv A outer s H vs Q E hG hr h => ?_)
  · obtain ⟨a, ns, rfl, _⟩ := h
    rfl
  · obtain ⟨a, ns, rfl, hS, hl, q⟩ := h
    refine ⟨_, (pss_cons (ps_for PassesOwn.never rfl (pi_range1 (by rfl) T.b_range (pa_cons (pe_callB (call_max2 rfl) (by rfl) T.b_max (by decide +kernel) (pa_cons pe_int (pa_cons (pe_callB (call_min2 rfl) (by rfl) T.b_min (by decide +kernel) (pa_cons pe_int (pa_cons (pe_callB (call_lenK (K := K)) (by rfl) T.b_len PySem.boot_len (pa_cons (pv 0) pa_nil)) pa_nil))) pa_nil))) pa_nil)) (pg_name (i := 1) sc_law.nd rfl (Or.inl rfl)) (pss_cons (ps_set (i := 2) sc_law.nd rfl (Or.inl rfl) (pe_callO (ok_law_well T) hG (hr.mono (by decide)) (pa_cons (pv 0) (pa_cons (pv 1) pa_nil)))) (pss_cons (ps_asg (pe_callO (ok_law_wide_book T) hG (hr.mono (by decide)) (pa_cons (pv 2) (pa_cons pe_int pa_nil))) (pg_tup rfl (pgs_cons (pg_name (i := 3) sc_law.nd rfl (Or.inl rfl)) (pgs_cons (pg_name (i := 4) sc_law.nd rfl (Or.inl rfl)) pgs_nil)))) (pss_cons (ps_if (pt_not (pt_val (pe_callO (ok_law_book_right T hP) hG (hr.mono (by decide)) (pa_cons (pv 3) (pa_cons (pe_callO (ok_law_all_lots T) hG (hr.mono (by decide)) (pa_cons (pe_ix (ix_tupK (K := K)) (pv 3) pe_int (fun _ _ => rfl)) pa_nil)) pa_nil))))) (pss_one (ps_ret pe_bl)) pss_nil) (pss_cons (ps_asg (pe_callO (ok_law_wide_book T) hG (hr.mono (by decide)) (pa_cons (pv 2) (pa_cons (pe_callO (ok_law_one_of T) hG (hr.mono (by decide)) (pa_cons (pv 2) (pa_cons (pe_lst (pa_cons pe_int (pa_cons pe_int (pa_cons pe_int pa_nil)))) pa_nil))) pa_nil))) (pg_tup rfl (pgs_cons (pg_name (i := 5) sc_law.nd rfl (Or.inl rfl)) (pgs_cons (pg_name (i := 4) sc_law.nd rfl (Or.inl rfl)) pgs_nil)))) (pss_one (ps_if (pt_not (pt_val (pe_callO (ok_law_book_right T hP) hG (hr.mono (by decide)) (pa_cons (pv 5) (pa_cons (pe_callO (ok_law_some_lots T) hG (hr.mono (by decide)) (pa_cons (pv 2) (pa_cons (pv 5) (pa_cons (pv 4) pa_nil)))) pa_nil))))) (pss_one (ps_ret pe_bl)) pss_nil))))))) (pss_one (ps_ret pe_bl))), ?_⟩
    have s3 : 3 ≤ sizeLine := sz_of (by omega)
    have lmap : (ns.map V.int).length = ns.length := List.length_map ..
    obtain ⟨m, hm, hm3⟩ : ∃ m : Nat, (if (if ((ns.map V.int).length : Int) < 3 then ((ns.map V.int).length : Int) else 3) > 2 then (if ((ns.map V.int).length : Int) < 3 then ((ns.map V.int).length : Int) else 3) else 2) = (m : Int) ∧ m ≤ 3 := by
      refine ⟨(if (if ((ns.map V.int).length : Int) < 3 then ((ns.map V.int).length : Int) else 3) > 2 then (if ((ns.map V.int).length : Int) < 3 then ((ns.map V.int).length : Int) else 3) else 2).toNat, ?_, ?_⟩
      all_goals (repeat' split) <;> omega
    refine ⟨_, rfl, a, _, rfl, .inl hS, _, _, rfl, _, _, rfl, _, rfl, ?_, ?_, ?_⟩
    · rw [hm]
      omega
    · rw [hm]
      omega
    rw [hm, Int.toNat_natCast]
    refine fo_rng (fun j σ H' => ∃ x1 x2 x3 x4 x5, σ = [some (.ref a), x1, x2, x3, x4, x5] ∧ Ex H H') ⟨_, _, _, _, _, rfl, Ex.refl _⟩ ?_ ?_
    · rintro j σ H1 hj ⟨x1, x2, x3, x4, x5, rfl, e1⟩
      have hk : (0 : Int) + (j : Int) = (j : Int) := Int.zero_add _
      rw [hk]
      refine ⟨_, rfl, _, rfl, a, ns, j, rfl, ex_l e1 hS, by omega, by omega, fun wl G2 H2 e2 W2 => ?_⟩
      refine ⟨_, rfl, wl, 7, 0, G2, rfl, by omega, by omega, by omega, W2, fun t b kl n ws rs G3 H3 e3 W3 hT hB hk D => ?_⟩
      refine ⟨t, _, rfl, ex_t W3.e hT, rfl, _, _, rfl, _, _, rfl, rfl, ?_⟩
      have hB3 := dp_ex W3.e hB
      obtain ⟨bk, tt, ebk, hb, ht⟩ := dp_book hB3
      cases ebk
      refine ⟨_, rfl, _, rfl, _, _, _, _, rfl, rfl, hb, atI_of (j := 1) rfl rfl, _, ws, rfl, dpT ht, D.le, fun la H4 lots e4 na hla LO => ⟨_, la, n, ws, lots, rfl, dp_ex e4 hB3, hla, D.bk, LO, fun c H5 e5 hc => ?_⟩⟩
      obtain rfl := dp_bl hc
      refine ⟨_, rfl, iteF ?_⟩
      obtain ⟨G5, g5, W5, _⟩ := W3.ex (e4.trans e5)
      refine ⟨_, rfl, _, rfl, s3, fun p np => ⟨wl, .ref p, 3, 1000, upd G5 p _, rfl, by omega, by omega, by omega, W5.new np, .inr ⟨p, _, rfl, .inl (SqL.of upd_same), rfl, fun v H6 hv W6 => ?_⟩⟩⟩
      obtain ⟨most, rfl, m2, m43⟩ : ∃ m : Nat, v = .int m ∧ 2 ≤ m ∧ m ≤ 43 := by
        simp only [List.mem_cons, List.mem_nil_iff, or_false] at hv
        rcases hv with rfl | rfl | rfl
        · exact ⟨12, rfl, by omega, by omega⟩
        · exact ⟨25, rfl, by omega, by omega⟩
        · exact ⟨40, rfl, by omega, by omega⟩
      refine ⟨wl, most, 1001, _, rfl, m2, m43, by omega, W6, fun t2 b2 kl2 n2 ws2 rs2 G7 H7 e7 W7 hT2 hB2 hk2 D2 => ?_⟩
      refine ⟨t2, _, rfl, ex_t W7.e hT2, rfl, _, _, rfl, _, _, rfl, rfl, ?_⟩
      refine ⟨_, rfl, _, rfl, _, rfl, _, rfl, wl, kl2, _, n2, 2001, ws2, rs2, G7, rfl, by omega, W7, hB2, hk2, D2.bk, D2.rg, D2.few, fun la2 lots2 G8 H8 e8 W8 hla2 LO2 => ?_⟩
      refine ⟨_, la2, n2, ws2, lots2, rfl, dp_ex W8.e (dp_ex e8 hB2), hla2.ex W8.e, D2.bk, LO2, fun c H9 e9 hc => ?_⟩
      obtain rfl := dp_bl hc
      have e59 := ((Ex.new (W5.free np)).trans e7).trans e8
      refine ⟨_, rfl, iteF ⟨_, _, _, _, _, rfl, ?_⟩⟩
      have z1 : Ex H G5 := (e1.trans e2).trans (e3.trans g5)
      exact ((z1.trans e59).trans W8.e).trans e9
    · rintro σ H' ⟨x1, x2, x3, x4, x5, rfl, e⟩
      exact q _
end

def D_is_integer : He.DefD := ⟨("is_integer", none), "is_integer", "is_integer", defArgs s_is_integer, defBody s_is_integer, defScope s_is_integer, [], []⟩
def D_anew : He.DefD := ⟨("anew", none), "anew", "anew", defArgs s_anew, defBody s_anew, defScope s_anew, [], []⟩
def D_are_ascending : He.DefD := ⟨("are_ascending", none), "are_ascending", "are_ascending", defArgs s_are_ascending, defBody s_are_ascending, defScope s_are_ascending, [], []⟩
def D_is_word : He.DefD := ⟨("is_word", none), "is_word", "is_word", defArgs s_is_word, defBody s_is_word, defScope s_is_word, [], []⟩
def D_is_size : He.DefD := ⟨("is_size", none), "is_size", "is_size", defArgs s_is_size, defBody s_is_size, defScope s_is_size, [], []⟩
def D_are_windows : He.DefD := ⟨("are_windows", none), "are_windows", "are_windows", defArgs s_are_windows, defBody s_are_windows, defScope s_are_windows, [], []⟩
def D_is_a_book : He.DefD := ⟨("is_a_book", none), "is_a_book", "is_a_book", defArgs s_is_a_book, defBody s_is_a_book, defScope s_is_a_book, [], []⟩
def D_places_of : He.DefD := ⟨("places_of", none), "places_of", "places_of", defArgs s_places_of, defBody s_places_of, defScope s_places_of, [], []⟩
def D_need_book : He.DefD := ⟨("need_book", none), "need_book", "need_book", defArgs s_need_book, defBody s_need_book, defScope s_need_book, [], []⟩
def D_begin_of : He.DefD := ⟨("begin_of", none), "begin_of", "begin_of", defArgs s_begin_of, defBody s_begin_of, defScope s_begin_of, [], []⟩
def D_end_of : He.DefD := ⟨("end_of", none), "end_of", "end_of", defArgs s_end_of, defBody s_end_of, defScope s_end_of, [], []⟩
def D_windows_out : He.DefD := ⟨("windows_out", none), "windows_out", "windows_out", defArgs s_windows_out, defBody s_windows_out, defScope s_windows_out, [], []⟩
def D_places_from : He.DefD := ⟨("places_from", none), "places_from", "places_from", defArgs s_places_from, defBody s_places_from, defScope s_places_from, [], []⟩
def D_a_closed_lot : He.DefD := ⟨("a_closed_lot", none), "a_closed_lot", "a_closed_lot", defArgs s_a_closed_lot, defBody s_a_closed_lot, defScope s_a_closed_lot, [], []⟩
def D_need_some_ring : He.DefD := ⟨("need_some_ring", none), "need_some_ring", "need_some_ring", defArgs s_need_some_ring, defBody s_need_some_ring, defScope s_need_some_ring, [], []⟩
def D_book_without : He.DefD := ⟨("book_without", none), "book_without", "book_without", defArgs s_book_without, defBody s_book_without, defScope s_book_without, [], []⟩
def D_can_go : He.DefD := ⟨("can_go", none), "can_go", "can_go", defArgs s_can_go, defBody s_can_go, defScope s_can_go, [], []⟩
def D_needed : He.DefD := ⟨("needed", none), "needed", "needed", defArgs s_needed, defBody s_needed, defScope s_needed, [], []⟩
def D_may_go : He.DefD := ⟨("may_go", none), "may_go", "may_go", defArgs s_may_go, defBody s_may_go, defScope s_may_go, [], []⟩
def D_rest : He.DefD := ⟨("rest", none), "rest", "rest", defArgs s_rest, defBody s_rest, defScope s_rest, [], []⟩
def D_law_well : He.DefD := ⟨("_law_well", none), "_law_well", "_law_well", defArgs s_law_well, defBody s_law_well, defScope s_law_well, [], []⟩
def D_law_pick : He.DefD := ⟨("_law_pick", none), "_law_pick", "_law_pick", defArgs s_law_pick, defBody s_law_pick, defScope s_law_pick, [], []⟩
def D_law_one_of : He.DefD := ⟨("_law_one_of", none), "_law_one_of", "_law_one_of", defArgs s_law_one_of, defBody s_law_one_of, defScope s_law_one_of, [], []⟩
def D_law_round : He.DefD := ⟨("_law_round", none), "_law_round", "_law_round", defArgs s_law_round, defBody s_law_round, defScope s_law_round, [], []⟩
def D_law_tally : He.DefD := ⟨("_law_tally", none), "_law_tally", "_law_tally", defArgs s_law_tally, defBody s_law_tally, defScope s_law_tally, [], []⟩
def D_law_ways_out : He.DefD := ⟨("_law_ways_out", none), "_law_ways_out", "_law_ways_out", defArgs s_law_ways_out, defBody s_law_ways_out, defScope s_law_ways_out, [], []⟩
def D_law_come_to : He.DefD := ⟨("_law_come_to", none), "_law_come_to", "_law_come_to", defArgs s_law_come_to, defBody s_law_come_to, defScope s_law_come_to, [], []⟩
def D_law_hangs : He.DefD := ⟨("_law_hangs", none), "_law_hangs", "_law_hangs", defArgs s_law_hangs, defBody s_law_hangs, defScope s_law_hangs, [], []⟩
def D_law_without : He.DefD := ⟨("_law_without", none), "_law_without", "_law_without", defArgs s_law_without, defBody s_law_without, defScope s_law_without, [], []⟩
def D_law_wide_book : He.DefD := ⟨("_law_wide_book", none), "_law_wide_book", "_law_wide_book", defArgs s_law_wide_book, defBody s_law_wide_book, defScope s_law_wide_book, [], []⟩
def D_law_all_lots : He.DefD := ⟨("_law_all_lots", none), "_law_all_lots", "_law_all_lots", defArgs s_law_all_lots, defBody s_law_all_lots, defScope s_law_all_lots, [], []⟩
def D_law_some_lots : He.DefD := ⟨("_law_some_lots", none), "_law_some_lots", "_law_some_lots", defArgs s_law_some_lots, defBody s_law_some_lots, defScope s_law_some_lots, [], []⟩
def D_law_lots_right : He.DefD := ⟨("_law_lots_right", none), "_law_lots_right", "_law_lots_right", defArgs s_law_lots_right, defBody s_law_lots_right, defScope s_law_lots_right, [], []⟩
def D_law_caught : He.DefD := ⟨("_law_caught", none), "_law_caught", "_law_caught", defArgs s_law_caught, defBody s_law_caught, defScope s_law_caught, [], []⟩
def D_law_needed_right : He.DefD := ⟨("_law_needed_right", none), "_law_needed_right", "_law_needed_right", defArgs s_law_needed_right, defBody s_law_needed_right, defScope s_law_needed_right, [], []⟩
def D_law_rest_right : He.DefD := ⟨("_law_rest_right", none), "_law_rest_right", "_law_rest_right", defArgs s_law_rest_right, defBody s_law_rest_right, defScope s_law_rest_right, [], []⟩
def D_law_book_right : He.DefD := ⟨("_law_book_right", none), "_law_book_right", "_law_book_right", defArgs s_law_book_right, defBody s_law_book_right, defScope s_law_book_right, [], []⟩
def D_law : He.DefD := ⟨("law", none), "law", "law", defArgs s_law, defBody s_law, defScope s_law, [], []⟩
def hfn : List He.DefD := [D_is_integer, D_anew, D_are_ascending, D_is_word, D_is_size, D_are_windows, D_is_a_book, D_places_of, D_need_book, D_begin_of, D_end_of, D_windows_out, D_places_from, D_a_closed_lot, D_need_some_ring, D_book_without, D_can_go, D_needed, D_may_go, D_rest, D_law_well, D_law_pick, D_law_one_of, D_law_round, D_law_tally, D_law_ways_out, D_law_come_to, D_law_hangs, D_law_without, D_law_wide_book, D_law_all_lots, D_law_some_lots, D_law_lots_right, D_law_caught, D_law_needed_right, D_law_rest_right, D_law_book_right, D_law]
def hfa : List He.Fa := [.glo "is_integer", .glo "anew", .glo "are_ascending", .glo "is_word", .glo "is_size", .glo "are_windows", .glo "is_a_book", .glo "places_of", .glo "need_book", .glo "begin_of", .glo "end_of", .glo "windows_out", .glo "places_from", .glo "a_closed_lot", .glo "need_some_ring", .glo "book_without", .glo "can_go", .glo "needed", .glo "may_go", .glo "rest", .glo "_law_well", .glo "_law_pick", .glo "_law_one_of", .glo "_law_round", .glo "_law_tally", .glo "_law_ways_out", .glo "_law_come_to", .glo "_law_hangs", .glo "_law_without", .glo "_law_wide_book", .glo "_law_all_lots", .glo "_law_some_lots", .glo "_law_lots_right", .glo "_law_caught", .glo "_law_needed_right", .glo "_law_rest_right", .glo "_law_book_right", .glo "law", .glo "PieceError", .glo "InvalidBook", .glo "NoRing", .glo "InvalidWindows", .free "range", .free "len", .free "max", .free "min", .free "abs", .free "int", .free "sorted", .free "tuple", .free "list", .free "all", .free "any", .free "isinstance", .free "enumerate", .free "repr", .free "str", .free "bool", .str "LETTERS" "abcdefghijklmnopqrstuvwxyz", .int "LEAST_SIZE" (2), .int "MOST_SIZE" (6)]
def loose0 : List PySem.Str := ["is_integer", "anew", "are_ascending", "is_word", "is_size", "are_windows", "is_a_book", "places_of", "need_book", "begin_of", "end_of", "windows_out", "places_from", "a_closed_lot", "need_some_ring", "book_without", "can_go", "needed", "may_go", "rest", "_law_well", "_law_pick", "_law_one_of", "_law_round", "_law_tally"]
def loose1 : List PySem.Str := ["_law_ways_out", "_law_come_to", "_law_hangs", "_law_without", "_law_wide_book", "_law_all_lots", "_law_some_lots", "_law_lots_right", "_law_caught", "_law_needed_right", "_law_rest_right", "_law_book_right", "PieceError", "InvalidBook", "NoRing", "InvalidWindows", "LETTERS", "LEAST_SIZE", "MOST_SIZE"]
def looseAll : List PySem.Str := loose0 ++ loose1
abbrev hR : PySem.W.OpenRow := PySem.W.OpenLaw.row PySem.Challenge.rw_surepieces_k63_whole_what_may_go
abbrev hHk : PySem.W.Hook := hookX 4 hfa hfn xs
def hob (s : PySem.W.SharedT) : AlX := obsXG 4 hfa hfn xs (HandSHeadRun.getT s)
theorem hob_eq (s : PySem.W.SharedT) : hob s = hHk.obs s.abs := obsXG_eq (HandSHeadRun.getT_eq s)
theorem hrun (w : World) : HandSHeadRun.RunEq hR (PySem.W.view hR.prog [50]) hHk hob 4000 looseAll w := by
  intro os
  kernel_rfl
theorem hfacts {K : PySem.W.Frag} {h : Heap} {mg : Str → Option Value} (X : K.In h) (G : h.Ns mainGlobals mg) (cx : SaysX hfa hfn xs K) : Tx K mg :=
  have c := cx.d
  {
  d_is_integer := by
    obtain ⟨fd, F⟩ := c.def_ 0 (d := D_is_integer) rfl
    exact ⟨_, fd, F, F.bindsN fun _ _ _ _ _ _ us hl => match us, hl with | [_], _ => rfl, He.glo_ok X G (c.fact 0 (f := .glo "is_integer") rfl)⟩
  d_anew := by
    obtain ⟨fd, F⟩ := c.def_ 1 (d := D_anew) rfl
    exact ⟨_, fd, F, F.bindsN fun _ _ _ _ _ _ us hl => match us, hl with | [_], _ => rfl, He.glo_ok X G (c.fact 1 (f := .glo "anew") rfl)⟩
  d_are_ascending := by
    obtain ⟨fd, F⟩ := c.def_ 2 (d := D_are_ascending) rfl
    exact ⟨_, fd, F, F.bindsN fun _ _ _ _ _ _ us hl => match us, hl with | [_], _ => rfl, He.glo_ok X G (c.fact 2 (f := .glo "are_ascending") rfl)⟩
  d_is_word := by
    obtain ⟨fd, F⟩ := c.def_ 3 (d := D_is_word) rfl
    exact ⟨_, fd, F, F.bindsN fun _ _ _ _ _ _ us hl => match us, hl with | [_], _ => rfl, He.glo_ok X G (c.fact 3 (f := .glo "is_word") rfl)⟩
  d_is_size := by
    obtain ⟨fd, F⟩ := c.def_ 4 (d := D_is_size) rfl
    exact ⟨_, fd, F, F.bindsN fun _ _ _ _ _ _ us hl => match us, hl with | [_], _ => rfl, He.glo_ok X G (c.fact 4 (f := .glo "is_size") rfl)⟩
  d_are_windows := by
    obtain ⟨fd, F⟩ := c.def_ 5 (d := D_are_windows) rfl
    exact ⟨_, fd, F, F.bindsN fun _ _ _ _ _ _ us hl => match us, hl with | [_, _], _ => rfl, He.glo_ok X G (c.fact 5 (f := .glo "are_windows") rfl)⟩
  d_is_a_book := by
    obtain ⟨fd, F⟩ := c.def_ 6 (d := D_is_a_book) rfl
    exact ⟨_, fd, F, F.bindsN fun _ _ _ _ _ _ us hl => match us, hl with | [_], _ => rfl, He.glo_ok X G (c.fact 6 (f := .glo "is_a_book") rfl)⟩
  d_places_of := by
    obtain ⟨fd, F⟩ := c.def_ 7 (d := D_places_of) rfl
    exact ⟨_, fd, F, F.bindsN fun _ _ _ _ _ _ us hl => match us, hl with | [_], _ => rfl, He.glo_ok X G (c.fact 7 (f := .glo "places_of") rfl)⟩
  d_need_book := by
    obtain ⟨fd, F⟩ := c.def_ 8 (d := D_need_book) rfl
    exact ⟨_, fd, F, F.bindsN fun _ _ _ _ _ _ us hl => match us, hl with | [_], _ => rfl, He.glo_ok X G (c.fact 8 (f := .glo "need_book") rfl)⟩
  d_begin_of := by
    obtain ⟨fd, F⟩ := c.def_ 9 (d := D_begin_of) rfl
    exact ⟨_, fd, F, F.bindsN fun _ _ _ _ _ _ us hl => match us, hl with | [_], _ => rfl, He.glo_ok X G (c.fact 9 (f := .glo "begin_of") rfl)⟩
  d_end_of := by
    obtain ⟨fd, F⟩ := c.def_ 10 (d := D_end_of) rfl
    exact ⟨_, fd, F, F.bindsN fun _ _ _ _ _ _ us hl => match us, hl with | [_], _ => rfl, He.glo_ok X G (c.fact 10 (f := .glo "end_of") rfl)⟩
  d_windows_out := by
    obtain ⟨fd, F⟩ := c.def_ 11 (d := D_windows_out) rfl
    exact ⟨_, fd, F, F.bindsN fun _ _ _ _ _ _ us hl => match us, hl with | [_], _ => rfl, He.glo_ok X G (c.fact 11 (f := .glo "windows_out") rfl)⟩
  d_places_from := by
    obtain ⟨fd, F⟩ := c.def_ 12 (d := D_places_from) rfl
    exact ⟨_, fd, F, F.bindsN fun _ _ _ _ _ _ us hl => match us, hl with | [_, _], _ => rfl, He.glo_ok X G (c.fact 12 (f := .glo "places_from") rfl)⟩
  d_a_closed_lot := by
    obtain ⟨fd, F⟩ := c.def_ 13 (d := D_a_closed_lot) rfl
    exact ⟨_, fd, F, F.bindsN fun _ _ _ _ _ _ us hl => match us, hl with | [_], _ => rfl, He.glo_ok X G (c.fact 13 (f := .glo "a_closed_lot") rfl)⟩
  d_need_some_ring := by
    obtain ⟨fd, F⟩ := c.def_ 14 (d := D_need_some_ring) rfl
    exact ⟨_, fd, F, F.bindsN fun _ _ _ _ _ _ us hl => match us, hl with | [_], _ => rfl, He.glo_ok X G (c.fact 14 (f := .glo "need_some_ring") rfl)⟩
  d_book_without := by
    obtain ⟨fd, F⟩ := c.def_ 15 (d := D_book_without) rfl
    exact ⟨_, fd, F, F.bindsN fun _ _ _ _ _ _ us hl => match us, hl with | [_, _], _ => rfl, He.glo_ok X G (c.fact 15 (f := .glo "book_without") rfl)⟩
  d_can_go := by
    obtain ⟨fd, F⟩ := c.def_ 16 (d := D_can_go) rfl
    exact ⟨_, fd, F, F.bindsN fun _ _ _ _ _ _ us hl => match us, hl with | [_, _], _ => rfl, He.glo_ok X G (c.fact 16 (f := .glo "can_go") rfl)⟩
  d_needed := by
    obtain ⟨fd, F⟩ := c.def_ 17 (d := D_needed) rfl
    exact ⟨_, fd, F, F.bindsN fun _ _ _ _ _ _ us hl => match us, hl with | [_], _ => rfl, He.glo_ok X G (c.fact 17 (f := .glo "needed") rfl)⟩
  d_may_go := by
    obtain ⟨fd, F⟩ := c.def_ 18 (d := D_may_go) rfl
    exact ⟨_, fd, F, F.bindsN fun _ _ _ _ _ _ us hl => match us, hl with | [_, _], _ => rfl, He.glo_ok X G (c.fact 18 (f := .glo "may_go") rfl)⟩
  d_rest := by
    obtain ⟨fd, F⟩ := c.def_ 19 (d := D_rest) rfl
    exact ⟨_, fd, F, F.bindsN fun _ _ _ _ _ _ us hl => match us, hl with | [_], _ => rfl, He.glo_ok X G (c.fact 19 (f := .glo "rest") rfl)⟩
  d_law_well := by
    obtain ⟨fd, F⟩ := c.def_ 20 (d := D_law_well) rfl
    exact ⟨_, fd, F, F.bindsN fun _ _ _ _ _ _ us hl => match us, hl with | [_, _], _ => rfl, He.glo_ok X G (c.fact 20 (f := .glo "_law_well") rfl)⟩
  d_law_pick := by
    obtain ⟨fd, F⟩ := c.def_ 21 (d := D_law_pick) rfl
    exact ⟨_, fd, F, F.bindsN fun _ _ _ _ _ _ us hl => match us, hl with | [_, _], _ => rfl, He.glo_ok X G (c.fact 21 (f := .glo "_law_pick") rfl)⟩
  d_law_one_of := by
    obtain ⟨fd, F⟩ := c.def_ 22 (d := D_law_one_of) rfl
    exact ⟨_, fd, F, F.bindsN fun _ _ _ _ _ _ us hl => match us, hl with | [_, _], _ => rfl, He.glo_ok X G (c.fact 22 (f := .glo "_law_one_of") rfl)⟩
  d_law_round := by
    obtain ⟨fd, F⟩ := c.def_ 23 (d := D_law_round) rfl
    exact ⟨_, fd, F, F.bindsN fun _ _ _ _ _ _ us hl => match us, hl with | [_, _], _ => rfl, He.glo_ok X G (c.fact 23 (f := .glo "_law_round") rfl)⟩
  d_law_tally := by
    obtain ⟨fd, F⟩ := c.def_ 24 (d := D_law_tally) rfl
    exact ⟨_, fd, F, F.bindsN fun _ _ _ _ _ _ us hl => match us, hl with | [_], _ => rfl, He.glo_ok X G (c.fact 24 (f := .glo "_law_tally") rfl)⟩
  d_law_ways_out := by
    obtain ⟨fd, F⟩ := c.def_ 25 (d := D_law_ways_out) rfl
    exact ⟨_, fd, F, F.bindsN fun _ _ _ _ _ _ us hl => match us, hl with | [_], _ => rfl, He.glo_ok X G (c.fact 25 (f := .glo "_law_ways_out") rfl)⟩
  d_law_come_to := by
    obtain ⟨fd, F⟩ := c.def_ 26 (d := D_law_come_to) rfl
    exact ⟨_, fd, F, F.bindsN fun _ _ _ _ _ _ us hl => match us, hl with | [_, _], _ => rfl, He.glo_ok X G (c.fact 26 (f := .glo "_law_come_to") rfl)⟩
  d_law_hangs := by
    obtain ⟨fd, F⟩ := c.def_ 27 (d := D_law_hangs) rfl
    exact ⟨_, fd, F, F.bindsN fun _ _ _ _ _ _ us hl => match us, hl with | [_], _ => rfl, He.glo_ok X G (c.fact 27 (f := .glo "_law_hangs") rfl)⟩
  d_law_without := by
    obtain ⟨fd, F⟩ := c.def_ 28 (d := D_law_without) rfl
    exact ⟨_, fd, F, F.bindsN fun _ _ _ _ _ _ us hl => match us, hl with | [_, _], _ => rfl, He.glo_ok X G (c.fact 28 (f := .glo "_law_without") rfl)⟩
  d_law_wide_book := by
    obtain ⟨fd, F⟩ := c.def_ 29 (d := D_law_wide_book) rfl
    exact ⟨_, fd, F, F.bindsN fun _ _ _ _ _ _ us hl => match us, hl with | [_, _], _ => rfl, He.glo_ok X G (c.fact 29 (f := .glo "_law_wide_book") rfl)⟩
  d_law_all_lots := by
    obtain ⟨fd, F⟩ := c.def_ 30 (d := D_law_all_lots) rfl
    exact ⟨_, fd, F, F.bindsN fun _ _ _ _ _ _ us hl => match us, hl with | [_], _ => rfl, He.glo_ok X G (c.fact 30 (f := .glo "_law_all_lots") rfl)⟩
  d_law_some_lots := by
    obtain ⟨fd, F⟩ := c.def_ 31 (d := D_law_some_lots) rfl
    exact ⟨_, fd, F, F.bindsN fun _ _ _ _ _ _ us hl => match us, hl with | [_, _, _], _ => rfl, He.glo_ok X G (c.fact 31 (f := .glo "_law_some_lots") rfl)⟩
  d_law_lots_right := by
    obtain ⟨fd, F⟩ := c.def_ 32 (d := D_law_lots_right) rfl
    exact ⟨_, fd, F, F.bindsN fun _ _ _ _ _ _ us hl => match us, hl with | [_, _], _ => rfl, He.glo_ok X G (c.fact 32 (f := .glo "_law_lots_right") rfl)⟩
  d_law_caught := by
    obtain ⟨fd, F⟩ := c.def_ 33 (d := D_law_caught) rfl
    exact ⟨_, fd, F, F.bindsN fun _ _ _ _ _ _ us hl => match us, hl with | [_, _], _ => rfl, He.glo_ok X G (c.fact 33 (f := .glo "_law_caught") rfl)⟩
  d_law_needed_right := by
    obtain ⟨fd, F⟩ := c.def_ 34 (d := D_law_needed_right) rfl
    exact ⟨_, fd, F, F.bindsN fun _ _ _ _ _ _ us hl => match us, hl with | [_], _ => rfl, He.glo_ok X G (c.fact 34 (f := .glo "_law_needed_right") rfl)⟩
  d_law_rest_right := by
    obtain ⟨fd, F⟩ := c.def_ 35 (d := D_law_rest_right) rfl
    exact ⟨_, fd, F, F.bindsN fun _ _ _ _ _ _ us hl => match us, hl with | [_, _], _ => rfl, He.glo_ok X G (c.fact 35 (f := .glo "_law_rest_right") rfl)⟩
  d_law_book_right := by
    obtain ⟨fd, F⟩ := c.def_ 36 (d := D_law_book_right) rfl
    exact ⟨_, fd, F, F.bindsN fun _ _ _ _ _ _ us hl => match us, hl with | [_, _], _ => rfl, He.glo_ok X G (c.fact 36 (f := .glo "_law_book_right") rfl)⟩
  d_law := by
    obtain ⟨fd, F⟩ := c.def_ 37 (d := D_law) rfl
    exact ⟨_, fd, F, F.bindsN fun _ _ _ _ _ _ us hl => match us, hl with | [_], _ => rfl, He.glo_ok X G (c.fact 37 (f := .glo "law") rfl)⟩
  k_may_go_windows_book := by
    obtain ⟨fd, F⟩ := c.def_ 18 (d := D_may_go) rfl
    exact KbAt.of (st := s_may_go) F (He.glo_ok X G (c.fact 18 (f := .glo "may_go") rfl)) fun _ _ _ _ _ _ ws hl => match ws, hl with | [_, _], _ => rfl
  k_needed_book := by
    obtain ⟨fd, F⟩ := c.def_ 17 (d := D_needed) rfl
    exact KbAt.of (st := s_needed) F (He.glo_ok X G (c.fact 17 (f := .glo "needed") rfl)) fun _ _ _ _ _ _ ws hl => match ws, hl with | [_], _ => rfl
  k_rest_book := by
    obtain ⟨fd, F⟩ := c.def_ 19 (d := D_rest) rfl
    exact KbAt.of (st := s_rest) F (He.glo_ok X G (c.fact 19 (f := .glo "rest") rfl)) fun _ _ _ _ _ _ ws hl => match ws, hl with | [_], _ => rfl
  b_range := He.free_ok X G (c.fact 42 (f := .free "range") rfl)
  b_len := He.free_ok X G (c.fact 43 (f := .free "len") rfl)
  b_max := He.free_ok X G (c.fact 44 (f := .free "max") rfl)
  b_min := He.free_ok X G (c.fact 45 (f := .free "min") rfl)
  b_abs := He.free_ok X G (c.fact 46 (f := .free "abs") rfl)
  b_int := He.free_ok X G (c.fact 47 (f := .free "int") rfl)
  b_sorted := He.free_ok X G (c.fact 48 (f := .free "sorted") rfl)
  b_tuple := He.free_ok X G (c.fact 49 (f := .free "tuple") rfl)
  b_list := He.free_ok X G (c.fact 50 (f := .free "list") rfl)
  b_all := He.free_ok X G (c.fact 51 (f := .free "all") rfl)
  b_any := He.free_ok X G (c.fact 52 (f := .free "any") rfl)
  b_isinstance := He.free_ok X G (c.fact 53 (f := .free "isinstance") rfl)
  b_enumerate := He.free_ok X G (c.fact 54 (f := .free "enumerate") rfl)
  b_repr := He.free_ok X G (c.fact 55 (f := .free "repr") rfl)
  b_str := He.free_ok X G (c.fact 56 (f := .free "str") rfl)
  b_bool := He.free_ok X G (c.fact 57 (f := .free "bool") rfl)
  g_LETTERS := He.str_ok X G (c.fact 58 (f := .str "LETTERS" "abcdefghijklmnopqrstuvwxyz") rfl)
  g_LEAST_SIZE := He.int_ok X G (c.fact 59 (f := .int "LEAST_SIZE" (2)) rfl)
  g_MOST_SIZE := He.int_ok X G (c.fact 60 (f := .int "MOST_SIZE" (6)) rfl)
  x_ini := cx.ini fun _ _ _ _ _ _ _ us hl => match us, hl with | [_, _], _ => rfl
  x_NoRing := cx.cls X G 0
  }
end My
open PySem PySem.W PySem.Calls PyProof.Rows
theorem PySem.Challenge.cw_surepieces_k63_whole_what_may_go_holds : PySem.Challenge.rw_surepieces_k63_whole_what_may_go.Holds := by
  w_on; o_law
  refine HandSHeadRun.head_any (r := OpenLaw.row PySem.Challenge.rw_surepieces_k63_whole_what_may_go) (q := view (OpenLaw.row PySem.Challenge.rw_surepieces_k63_whole_what_may_go).prog [50]) (H := My.hHk) (ob := My.hob) (M := 4000) (loose := My.looseAll) (d := HandSHeadRun.topDef (OpenLaw.row PySem.Challenge.rw_surepieces_k63_whole_what_may_go).prog 50) (kwd := []) My.hob_eq
    (by kernel_rfl) (fun s => by kernel_rfl) My.hrun (by kernel_rfl) (by kernel_rfl) (by kernel_rfl) (by rfl) (by first | assumption | decide +kernel) (by decide +kernel) ⟨rfl, rfl, rfl, rfl, rfl, by decide +kernel⟩ ?hw ?hc
  case hw => w_witness2
  case hc =>
    refine My.end_walk (l := PySem.Challenge.rw_surepieces_k63_whole_what_may_go) (n := 63) (k := 9) (x := "script") rfl (by decide) (by kernel_rfl) ⟨rfl, by decide, by decide⟩ ?F
    intro w mg fa h Y G hmg0
    obtain ⟨K, KX, c⟩ := Y
    have hmg : mg ("law" : PySem.Str) = some (.ref fa) := by
      have e : (HandSHeadRun.topDef (OpenLaw.row PySem.Challenge.rw_surepieces_k63_whole_what_may_go).prog 50).name = ("law" : PySem.Str) := by kernel_rfl
      rw [← e]
      exact hmg0
    have T := My.hfacts KX G c
    obtain ⟨fd, hb, hF⟩ := My.law_fn (P := (PySem.Challenge.rw_surepieces_k63_whole_what_may_go).prog) (w := w) (sp := My.spLaw K) (k := 9) T.d_law hmg (fun base => My.ok_law T ⟨by rfl, by rfl⟩) fun _ _ _ _ _ _ us hl => match us, hl with | [_], _ => rfl
    exact ⟨K, fd, My.spLaw K, KX, hb, fun H a ns hl _ hS => ⟨a, ns, rfl, hS, hl, fun _ => rfl⟩, fun base _ _ => hF base⟩

