import PyProof.Rows.All
import Wide.All
import OpenK.AllK
import Wide.FinOn
import KE.KStateDown
import Lean
import HandS.ForMost
import HandS.Defaults
import HandS.Evl
import HandS.IsInst
import HandS.TupAny
import HandS.TupSets
import HandS.Wide
import HandS.Deep
import HandS.Comp
import HandS.DictComp
import HandS.HeadEnd
import HandS.TryOnly
import HandS.Head0
import HandS.Head1
import HandS.Head2
import HandS.HeadHook1
import HandS.HeadHook2
import HandS.SortInts
import KE.SortData
import HandS.Exc
import HandS.ExcInit
import HandS.ExcOwn
import HandS.ExcField
import HandS.ExcValue
import HandS.Zip
import HandS.TupLe
import HandS.TupMul
import KE.KDictZip
import KE.KTupSum
import KE.GoesMore
import PyProof.EnumMake
import HandS.Set
import HandS.SetFor
import HandS.Strs
import KE.KExcSuper
import KE.KSuper
import HandS.Style
import PyProof.Rows.StrRev
import HandS.Iter
import KE.DataMinMax
import PyProof.StrOps2
import HandS.Sort
import PyProof.TupleOfSeq
import PyProof.SetRoads
import PyProof.StrWalks
import HandS.Dict
import PySem.Challenge.RW_surepieces_k54_whole_rings_of_closed_wal
set_option Elab.async false
set_option linter.all false
set_option maxRecDepth 100000
set_option maxHeartbeats 4000000
namespace My
open PySem PySem.Spec PyProof.Rows L2 Evl
/-! ### a def's promise where no repr is under way (guards) -/
structure FnG (P : Program) (w : World) (K : PySem.W.Frag) (mg : Str → Option Value) (base : Heap) (CX : CXT) (k : Nat) (f : Addr) (fd : FuncData) (ps : List Str) (sp : Sp) : Prop where
  len : ∀ vs H Q E, sp vs H Q E → vs.length = ps.length
  run : ∀ (A : Around) (outer : List Env) (st : Shared) (H : Hp) (args : Args) (us : List Value) (vs : List V) (Q : VK) (E : XK), A.guards = some [] → Room k A → Env0 P w K mg base A outer st H →
    BindsTo st fd args (ps.zip us) → Vals vs us → sp vs H Q E → codeAny (model P w) A (.call (.ref f) args) (CR CX outer P w H st Q E) st
section
variable {P : Program} {w : World} {K : PySem.W.Frag} {mg : Str → Option Value} {base : Heap} {CX : CXT} {x qual : Str} {params : Arguments} {body : List Stmt} {scope : Scope} {dvs : List V} {kws : List (Str × V)} {f : Addr} {fd : FuncData}
theorem FnG.of {k : Nat} {ps : List Str} {sp : Sp} (G : FnOk P w K mg base CX k f fd ps sp) : FnG P w K mg base CX k f fd ps sp := ⟨G.len, fun A outer st H args us vs Q E _ => G.run A outer st H args us vs Q E⟩
theorem FnG.imp {k : Nat} {ps : List Str} {sp sp' : Sp} (G : FnG P w K mg base CX k f fd ps sp) (h : ∀ vs H Q E, sp' vs H Q E → sp vs H Q E) : FnG P w K mg base CX k f fd ps sp' :=
  ⟨fun vs H Q E q => G.len vs H Q E (h _ _ _ _ q), fun A outer st H args us vs Q E hg hr he hb hv hs => G.run A outer st H args us vs Q E hg hr he hb hv (h _ _ _ _ hs)⟩
/-- a def of the text by its body -/
theorem fn_g {N ps : List Str} {k : Nat} {sp : Sp} (F : FunD K x qual params body scope dvs kws f fd) (S : FnScope N ps scope) (len : ∀ vs H Q E, sp vs H Q E → vs.length = ps.length)
    (hb : ∀ (cdv : Value) (A : Around) (outer : List Env) (st : Shared) (H : Hp) (vs : List V) (Q : VK) (E : XK), (A.deeper (envOfC qual scope st.heap.objs.size f cdv)).guards = some [] → Room k (A.deeper (envOfC qual scope st.heap.objs.size f cdv)) → sp vs H Q E →
      ∃ t, PSs (cxOf CX P w K mg base N qual scope f cdv A outer st H E) body t ∧ t { nx := fun _ H' => Q .non H', rt := Q } (start N vs) H) : FnG P w K mg base CX (k + 1) f fd ps sp := by
  obtain ⟨oc, od, dV, kV, doc, pm, an, cdv, ct, osl, rfl, lk, hcd, _, _⟩ := F.ex
  refine ⟨len, fun A outer st H args us vs Q E hgd hroom henv hbd hvals hsp => ?_⟩
  have hlen := len _ _ _ _ hsp
  have kin : K.In st.heap := henv.mod.kin.keeps fun b o e => (henv.bs b o e).1
  have nolim : st.heap.NoLimit := henv.mod.nolimit.keeps fun b o e => (henv.bs b o e).1
  have kinds : ∀ y ∈ ps.zip us, scope.names.lookup y.1 = some .local ∨ (scope.names.lookup y.1 = some .cell ∧ ((cellsFrom (st.heap.objs.size + 1) scope.names []).lookup y.1).isSome = true) := fun ⟨n, v⟩ hy =>
    (S.par n (List.of_mem_zip hy).1).elim .inl fun q => .inr ⟨q, PySem.W.cellsFrom_some _ _ _ (.inl q)⟩
  refine codeAny_call_function hroom.depth (kin _ _ lk) rfl S.co S.gen rfl (PySem.W.codeRec_of kin hcd) (hbd _ _ _ _ ?_)
  refine wpAny_newFunctionEnv_cells S.kind kinds fun env heq s1 inC => ?_
  subst heq
  refine ⟨nolim.keeps inC.toInCall.keep, codeAny_func ?_⟩
  obtain ⟨t, ht, hq⟩ := hb cdv A outer st H vs Q E hgd (hroom.deeper _) hsp
  have I0 : Inv (cxOf CX P w K mg base N qual scope f cdv A outer st H E) [] (start N vs) H s1 := inv_start S hroom.hd henv hlen hvals inC
  refine wpAny_mono (ht.run [] s1 (start N vs) H _ I0 hq) (fun fl s' hs => ?_) fun e s' hs => hs
  have fin : ∀ {σ2 : L2.St} {H2 : Hp} {v : V} {u : Value}, Inv (cxOf CX P w K mg base N qual scope f cdv A outer st H E) [] σ2 H2 s' → RelV v u → Q v H2 → CE outer P w H st Q u s' :=
    fun {σ2 H2 v u} J rv q => ⟨v, H2, J.os, J.bare, J.base, J.hok, rv, q⟩
  cases fl with
  | ret u =>
    obtain ⟨v, _, _, J, rv, q⟩ := hs
    exact fin J rv q
  | next =>
    obtain ⟨_, _, J, q⟩ := hs
    exact fin (v := V.non) (u := Value.none) J rfl q
  | brk =>
    obtain ⟨_, _, _, q⟩ := hs
    exact q.elim
  | cont =>
    obtain ⟨_, _, _, q⟩ := hs
    exact q.elim
end
def FdAt (K : PySem.W.Frag) (f : Addr) (fd : FuncData) : Prop := ∃ oc od osl, K.lookup f = some ⟨oc, od, .func fd, osl⟩
/-- a def by its name: what it keeps -/
def Ok (P : Program) (w : World) (K : PySem.W.Frag) (mg : Str → Option Value) (base : Heap) (CX : CXT) (k : Nat) (x : Str) (ps : List Str) (sp : Sp) : Prop :=
  ∃ f fd, FnG P w K mg base CX k f fd ps sp ∧ Binds K fd ps [] ∧ mg x = some (.ref f) ∧ PySem.W.keepIn K (.ref f) = true ∧ FdAt K f fd
theorem fdAt_of {K : PySem.W.Frag} {x qual : Str} {params : Arguments} {body : List Stmt} {scope : Scope} {dvs : List V} {kws : List (Str × V)} {f : Addr} {fd : FuncData} (F : FunD K x qual params body scope dvs kws f fd) : FdAt K f fd := by
  obtain ⟨oc, od, _, _, _, _, _, _, _, osl, _, lk, _⟩ := F.ex
  exact ⟨oc, od, osl, lk⟩
theorem fdAt_eq {K : PySem.W.Frag} {f : Addr} {fd fe : FuncData} (a : FdAt K f fd) (b : FdAt K f fe) : fd = fe := by
  obtain ⟨_, _, _, h1⟩ := a
  obtain ⟨_, _, _, h2⟩ := b
  rw [h1] at h2
  cases h2
  rfl
abbrev FnP (K : PySem.W.Frag) (x : Str) (st : Stmt) (f : Addr) (fd : FuncData) : Prop := FunD K x x (defArgs st) (defBody st) (defScope st) [] [] f fd
def DefAt (K : PySem.W.Frag) (mg : Str → Option Value) (x : Str) (st : Stmt) (ps : List Str) : Prop := ∃ f fd, FnP K x st f fd ∧ Binds K fd ps [] ∧ mg x = some (.ref f)
section
variable {P : Program} {w : World} {K : PySem.W.Frag} {mg : Str → Option Value} {base : Heap} {CX : CXT} {x : Str} {st : Stmt}
/-- a def's promise from its place in the text -/
theorem DefAt.ok {N ps : List Str} {k : Nat} {sp : Sp} (D : DefAt K mg x st ps) (S : FnScope N ps (defScope st)) (len : ∀ vs H Q E, sp vs H Q E → vs.length = ps.length)
    (hb : ∀ (f : Addr) (cdv : Value) (A : Around) (outer : List Env) (s : Shared) (H : Hp) (vs : List V) (Q : VK) (E : XK), (A.deeper (envOfC x (defScope st) s.heap.objs.size f cdv)).guards = some [] → Room k (A.deeper (envOfC x (defScope st) s.heap.objs.size f cdv)) → sp vs H Q E →
      ∃ t, PSs (cxOf CX P w K mg base N x (defScope st) f cdv A outer s H E).nox (defBody st) t ∧ t { nx := fun _ H' => Q .non H', rt := Q } (start N vs) H) : Ok P w K mg base CX (k + 1) x ps sp := by
  obtain ⟨f, fd, F, b, g⟩ := D
  refine ⟨f, fd, fn_g F S len fun cdv A outer s H vs Q E hg hr h => ?_, b, g, F.kp, fdAt_of F⟩
  obtain ⟨t, ht, q⟩ := hb f cdv A outer s H vs Q E hg hr h
  exact ⟨t, ht.nox, q⟩
/-- the same of a def that an exception may leave -/
theorem DefAt.okX {N ps : List Str} {k : Nat} {sp : Sp} (D : DefAt K mg x st ps) (S : FnScope N ps (defScope st)) (len : ∀ vs H Q E, sp vs H Q E → vs.length = ps.length)
    (hb : ∀ (f : Addr) (cdv : Value) (A : Around) (outer : List Env) (s : Shared) (H : Hp) (vs : List V) (Q : VK) (E : XK), (A.deeper (envOfC x (defScope st) s.heap.objs.size f cdv)).guards = some [] → Room k (A.deeper (envOfC x (defScope st) s.heap.objs.size f cdv)) → sp vs H Q E →
      ∃ t, PSs (cxOf CX P w K mg base N x (defScope st) f cdv A outer s H E) (defBody st) t ∧ t { nx := fun _ H' => Q .non H', rt := Q } (start N vs) H) : Ok P w K mg base CX (k + 1) x ps sp := by
  obtain ⟨f, fd, F, b, g⟩ := D
  exact ⟨f, fd, fn_g F S len fun cdv A outer s H vs Q E hg hr h => hb f cdv A outer s H vs Q E hg hr h, b, g, F.kp, fdAt_of F⟩
theorem Ok.imp {k : Nat} {ps : List Str} {sp sp' : Sp} (G : Ok P w K mg base CX k x ps sp) (h : ∀ vs H Q E, sp' vs H Q E → sp vs H Q E) : Ok P w K mg base CX k x ps sp' := by
  obtain ⟨f, fd, F, b, g, kp⟩ := G
  exact ⟨f, fd, F.imp h, b, g, kp⟩
end
section
variable {X : Cx} {CX : CXT} {k : Nat} {x : Str} {ps : List Str} {sp : Sp} {E : XK} {p pos : Pos} {e : Expr} {es : List Expr} {t : TA}
theorem run_g {f : Addr} {fd : FuncData} {pins : List (Addr × Obj)} {σ : L2.St} {H : Hp} {st : Shared} {Q : VK} {us : List Value} {vs : List V} (F : FnG X.prog X.w X.K X.mg X.base CX k f fd ps sp) (hg : X.A.guards = some []) (hr : Room k X.A) (hb : Binds X.K fd ps []) (hx : Passes CX X E)
    (I : Inv X pins σ H st) (r : Vals vs us) (h : sp vs H Q E) : wpAny (model X.prog X.w) X.A (call (.ref f) us) (EP X pins σ Q) X.xe st := by
  have hn : (us ++ []).length = ps.length := by rw [List.append_nil, ← r.length]; exact F.len _ _ _ _ h
  have hbt : BindsTo st fd ⟨us, []⟩ (ps.zip us) := by
    have z := hb st us I.kIn hn
    rw [List.append_nil] at z
    exact z
  refine wpAny_call (codeAny_mono (F.run X.A X.stack st H ⟨us, []⟩ us vs Q E hg hr I.env0 hbt r h) fun res s2 hq => ?_)
  cases res with
  | error err => exact hx pins σ H st err s2 I hq
  | ok fl =>
    cases fl with
    | ret u => exact I.after hq
    | next => exact hq.elim
    | brk => exact hq.elim
    | cont => exact hq.elim
/-- f(e, ..): what sp asks of the arguments -/
def tCl (sp : Sp) (E : XK) (t : TA) : TE := fun σ H Q => t σ H fun vs H1 => sp vs H1 Q E
theorem pe_callX (G : Ok X.prog X.w X.K X.mg X.base CX k x ps sp) (hgd : X.A.guards = some []) (hr : Room k X.A) (hx : Passes CX X E) (ha : PA X (e :: es) t) (hg : Gl X x := by rfl)
    (hdb : (x == ("__debug__" : Str)) = false := by decide) (he : starEach (e :: es) X.env = (false, eval e X.env) :: starEach es X.env := by rfl) (hpl : (backTo pos (starEach es X.env)).any (·.1) = false := by rfl) :
    PE X (.Call (.Name x p) (e :: es) [] pos) (tCl sp E t) := by
  obtain ⟨f, fd, F, hb, hm, hk, _⟩ := G
  refine ⟨fun pins st σ H Q I h => ?_⟩
  refine wpAny_Call_Name_kw (ld_glob I hg hm ?_ hdb)
  refine PySem.W.callWith_K (h₀ := X.base) I.ok.mod.kin hk (thn (ha.run pos pins st σ H _ I h) fun us s2 ⟨vs, H2, I2, rv, q⟩ => ⟨I2.kIn, run_g F hgd hr hb hx I2 rv q⟩) he hpl
theorem pe_callO (G : Ok X.prog X.w X.K X.mg X.base CX0 k x ps sp) (hgd : X.A.guards = some []) (hr : Room k X.A) (ha : PA X (e :: es) t) (hg : Gl X x := by rfl)
    (hdb : (x == ("__debug__" : Str)) = false := by decide) (he : starEach (e :: es) X.env = (false, eval e X.env) :: starEach es X.env := by rfl) (hpl : (backTo pos (starEach es X.env)).any (·.1) = false := by rfl) :
    PE X (.Call (.Name x p) (e :: es) [] pos) (tCl sp E0 t) := pe_callX G hgd hr pass0 ha hg hdb he hpl
/-! ### f(k = v, ..), every parameter by its name: idx puts the written values in the parameters' order -/
def ordG {α : Type} (idx : List Nat) (l : List α) : List α := idx.filterMap (l[·]?)
theorem ord_rel {idx : List Nat} {zs : List V} {ws : List Value} (r : Vals zs ws) : Vals (ordG idx zs) (ordG idx ws) := by
  unfold ordG
  induction idx with
  | nil => exact .nil
  | cons i idx ih =>
    cases hz : zs[i]? with
    | none =>
      rw [List.filterMap_cons_none hz, List.filterMap_cons_none (Vals.none_of r hz)]
      exact ih
    | some z =>
      obtain ⟨u, hu, rz⟩ := Vals.get r hz
      rw [List.filterMap_cons_some hz, List.filterMap_cons_some hu]
      exact .cons rz ih
def KbAt (K : PySem.W.Frag) (mg : Str → Option Value) (x : Str) (ps ks : List Str) (idx : List Nat) : Prop :=
  ∃ f fd, mg x = some (.ref f) ∧ FdAt K f fd ∧ ∀ ws : List Value, ws.length = ks.length → bindArgs fd ⟨[], ks.zip ws⟩ = pure (ps.zip (ordG idx ws))
theorem KbAt.of {K : PySem.W.Frag} {mg : Str → Option Value} {x : Str} {st : Stmt} {f : Addr} {fd : FuncData} {ps ks : List Str} {idx : List Nat} (F : FnP K x st f fd) (hm : mg x = some (.ref f))
    (h : ∀ (kV doc pm : Value) (an : Option Addr) (cdv ct : Value) (ws : List Value), ws.length = ks.length → bindArgs (PySem.W.fnOf x x (defArgs st) (defBody st) (defScope st) .none kV doc pm an cdv ct) ⟨[], ks.zip ws⟩ = pure (ps.zip (ordG idx ws))) : KbAt K mg x ps ks idx := by
  refine ⟨f, fd, hm, fdAt_of F, ?_⟩
  obtain ⟨_, _, dV, kV, doc, pm, an, cdv, ct, _, rfl, _, _, hD, _⟩ := F.ex
  rcases hD with ⟨_, rfl⟩ | ⟨e, _⟩
  · exact h kV doc pm an cdv ct
  · exact absurd rfl e
def tClK (sp : Sp) (n : Nat) (idx : List Nat) (E : XK) (tk : TA) : TE := fun σ H Q => tk σ H fun zs H1 => zs.length = n ∧ sp (ordG idx zs) H1 Q E
theorem pe_callKX {kws : List Keyword} {ks : List Str} {idx : List Nat} {tk : TA} (G : Ok X.prog X.w X.K X.mg X.base CX k x ps sp) (kb : KbAt X.K X.mg x ps ks idx) (hgd : X.A.guards = some []) (hr : Room k X.A) (hx : Passes CX X E) (hkw : PK X kws tk) (hg : Gl X x := by rfl)
    (hall : (backToKw pos (keywordEach kws X.env)).all (·.1.isSome) = true := by rfl) (hks : (backToKw pos (keywordEach kws X.env)).filterMap (·.1) = ks := by rfl) (hdb : (x == ("__debug__" : Str)) = false := by decide)
    (hpl : ((backTo pos (starEach [] X.env)).any (·.1) || (backToKw pos (keywordEach kws X.env)).any (·.1.isNone)) = false := by rfl) : PE X (.Call (.Name x p) [] kws pos) (tClK sp ks.length idx E tk) := by
  obtain ⟨f, fd, F, _, hm, hk, fa⟩ := G
  obtain ⟨f2, fe, hm2, fb, bind⟩ := kb
  obtain rfl : f = f2 := by
    rw [hm] at hm2
    cases hm2
    rfl
  obtain rfl := fdAt_eq fa fb
  constructor
  intro pins st σ H Q I want
  apply wpAny_Call_Name_kw
  apply ld_glob I hg hm ?_ hdb
  refine PySem.W.callWith_KW0 (h₀ := X.base) I.ok.mod.kin hk hall ?_ hpl
  · apply thn (hkw.run pos pins st σ H _ I want)
    rintro ws s2 ⟨zs, H2, I2, rz, hlen, sat⟩
    refine ⟨I2.kIn, ?_⟩
    rw [hks]
    have r2 : Vals (ordG idx zs) (ordG idx ws) := ord_rel rz
    have hl2 : ws.length = ks.length := by rw [← rz.length, hlen]
    show wpAny (model X.prog X.w) X.A (call (.ref f) [] (ks.zip ws)) (EP X pins σ Q) X.xe s2
    refine wpAny_call (codeAny_mono (F.run X.A X.stack s2 H2 ⟨[], ks.zip ws⟩ (ordG idx ws) (ordG idx zs) Q E hgd hr I2.env0 (.of_eq (bind ws hl2)) r2 sat) fun res s3 hq => ?_)
    cases res with
    | error err => exact hx pins σ H2 s2 err s3 I2 hq
    | ok fl =>
      cases fl with
      | ret u => exact I2.after hq
      | next => exact hq.elim
      | brk => exact hq.elim
      | cont => exact hq.elim
theorem pe_callKO {kws : List Keyword} {ks : List Str} {idx : List Nat} {tk : TA} (G : Ok X.prog X.w X.K X.mg X.base CX0 k x ps sp) (kb : KbAt X.K X.mg x ps ks idx) (hgd : X.A.guards = some []) (hr : Room k X.A) (hkw : PK X kws tk) (hg : Gl X x := by rfl)
    (hall : (backToKw pos (keywordEach kws X.env)).all (·.1.isSome) = true := by rfl) (hks : (backToKw pos (keywordEach kws X.env)).filterMap (·.1) = ks := by rfl) (hdb : (x == ("__debug__" : Str)) = false := by decide)
    (hpl : ((backTo pos (starEach [] X.env)).any (·.1) || (backToKw pos (keywordEach kws X.env)).any (·.1.isNone)) = false := by rfl) : PE X (.Call (.Name x p) [] kws pos) (tClK sp ks.length idx E0 tk) := pe_callKX G kb hgd hr pass0 hkw hg hall hks hdb hpl
/-- constants of the module, built-in types as values -/
theorem pe_gint {i : Int} (h : ∃ t, X.mg x = some (.int i t)) (hg : Gl X x := by rfl) (hd : (x == ("__debug__" : Str)) = false := by decide) : PE X (.Name x pos) (tC (.int i)) := by
  obtain ⟨t, ht⟩ := h
  exact pe_glob hg ht ⟨t, rfl⟩ hd
theorem pe_gstr {z : Str} (h : ∃ t, X.mg x = some (.str z t)) (hg : Gl X x := by rfl) (hd : (x == ("__debug__" : Str)) = false := by decide) : PE X (.Name x pos) (tC (.str z)) := by
  obtain ⟨t, ht⟩ := h
  exact pe_glob hg ht ⟨t, rfl⟩ hd
theorem pe_gty {T : String} (hm : X.mg x = none) (hv : bootBuiltins x = some (.type T)) (hg : Gl X x := by rfl) (hn : x ≠ "__name__" := by decide) (hd : (x == ("__debug__" : Str)) = false := by decide) : PE X (.Name x pos) (tC (.ty T)) :=
  pe_bltn hg hm hv rfl hn hd
end
/-! ### a list or a tuple, walked -/
def Sq (K : PySem.W.Frag) (H : Hp) (a : Addr) (xs : List V) : Prop := SqL K H a xs ∨ SqT K H a xs
def iSeq (K : PySem.W.Frag) (tl : TE) : TI := fun σ H R => tl σ H fun x H1 => ∃ a, x = .ref a ∧ (((∃ xs, SqL K H1 a xs) ∧ R (Itl K a) H1) ∨ ((∃ xs, SqT K H1 a xs) ∧ R (Itt K a) H1))
theorem pi_seq {X : Cx} {tg l : Expr} {tl : TE} (hl : PE X l tl) : PI X tg l (iSeq X.K tl) := by
  refine ⟨fun pins st σ H R I h => ?_⟩
  refine thn (hl.run pins st σ H _ I h) fun v s2 ⟨x, H2, I2, rx, a, ex, q⟩ => ?_
  subst ex
  cases rx
  have fresh : ∀ b ∈ [s2.heap.objs.size], FpOk X pins H2 b := fun b hb => by
    obtain rfl := List.mem_singleton.mp hb
    exact I2.fpOk (Nat.le_refl _) (I2.hok.fresh (Nat.le_refl _))
  rcases q with ⟨⟨xs, hq⟩, qr⟩ | ⟨⟨xs, hq⟩, qr⟩
  · obtain ⟨its, rv, pl, _⟩ := I2.list hq
    exact wpAny_pyIter_list pl.isList ⟨s2.heap.objs.size, [s2.heap.objs.size], _, _, H2, rfl, I2.kept (t' := s2.toks) fun b o e => Heap.get?_push_of_some _ e, turn_list a _, ⟨_, Heap.get?_push_size _ rfl, rfl, rfl⟩, fresh, qr⟩
  · obtain ⟨its, rv, pl, _⟩ := I2.tuple hq
    exact wpAny_pyIter_tuple (show s2.heap.IsTuple a its.toArray from pl) ⟨s2.heap.objs.size, [s2.heap.objs.size], _, _, H2, rfl, I2.kept (t' := s2.toks) fun b o e => Heap.get?_push_of_some _ e, turn_tuple a _, ⟨_, Heap.get?_push_size _ rfl, rfl, rfl⟩, fresh, qr⟩
/-! ### heaps: a new object, a changed one -/
theorem new_ {o : HO} {H : Hp} {Q : VK} (h : ∀ p H', H p = none → Ex H H' → H' p = some o → Q (.ref p) H') : ∀ p, H p = none → Q (.ref p) (upd H p o) := fun p np => h p _ np (Ex.new np) upd_same
/-- all but p is as it was -/
def Mu (p : Addr) (H H' : Hp) : Prop := ∀ q, q ≠ p → H' q = H q
theorem mut_ {o' : HO} {H : Hp} {p : Addr} {G : Hp → Prop} (h : ∀ H', Mu p H H' → H' p = some o' → G H') : G (upd H p o') := h _ (fun q hq => upd_ne hq) upd_same
theorem Mu.ex {Hb H H' : Hp} {p : Addr} (m : Mu p H H') (e : Ex Hb H) (np : Hb p = none) : Ex Hb H' := fun q o h => by
  rw [m q (ne_of_none h np)]
  exact e q o h
theorem Mu.at {H H' : Hp} {p q : Addr} {o : HO} (m : Mu p H H') (h : H q = some o) (hn : q ≠ p) : H' q = some o := by
  rw [m q hn]
  exact h
theorem ne_free {H : Hp} {a b : Addr} {o : HO} (h : H a = some o) (h' : H b = none) : b ≠ a := fun e => ne_of_none h h' e.symm
theorem ex_d {H H' : Hp} {a : Addr} {o : HO} (e : Ex H H') (h : H a = some o) : H' a = some o := e a o h
theorem ex_sq {K : PySem.W.Frag} {H H' : Hp} {a : Addr} {xs : List V} (e : Ex H H') (h : Sq K H a xs) : Sq K H' a xs := h.elim (fun q => .inl (ex_l e q)) fun q => .inr (ex_t e q)
/-! ### data -/
mutual
theorem dp_ex {K : PySem.W.Frag} {H H' : Hp} (e : Ex H H') : ∀ {v : V} {d : PyData}, Dp K H v d → Dp K H' v d
  | _, _, .non => .non
  | _, _, .bl b => .bl b
  | _, _, .int i => .int i
  | _, _, .str x => .str x
  | _, _, .lst h ha => .lst (ex_l e h) (dpa_ex e ha)
  | _, _, .tup h ha => .tup (ex_t e h) (dpa_ex e ha)
theorem dpa_ex {K : PySem.W.Frag} {H H' : Hp} (e : Ex H H') : ∀ {vs : List V} {ds : List PyData}, DpAll K H vs ds → DpAll K H' vs ds
  | _, _, .nil => .nil
  | _, _, .cons h t => .cons (dp_ex e h) (dpa_ex e t)
end
section
variable {K : PySem.W.Frag} {H : Hp} {v : V} {vs : List V} {d : PyData} {ds : List PyData}
theorem dp_int {i : Int} (h : Dp K H v (.int i)) : v = .int i := by cases h; rfl
theorem dp_str {x : Str} (h : Dp K H v (.str x)) : v = .str x := by cases h; rfl
theorem dp_bl {b : Bool} (h : Dp K H v (.bool b)) : v = .bl b := by cases h; rfl
theorem dp_non (h : Dp K H v .none) : v = .non := by cases h; rfl
theorem dp_tup (h : Dp K H v (.tuple ds)) : ∃ a xs, v = .ref a ∧ SqT K H a xs ∧ DpAll K H xs ds := by
  cases h with
  | tup h1 h2 => exact ⟨_, _, rfl, h1, h2⟩
theorem dp_lst (h : Dp K H v (.list ds)) : ∃ a xs, v = .ref a ∧ SqL K H a xs ∧ DpAll K H xs ds := by
  cases h with
  | lst h1 h2 => exact ⟨_, _, rfl, h1, h2⟩
theorem dpa_len : ∀ {vs : List V} {ds : List PyData}, DpAll K H vs ds → vs.length = ds.length
  | _, _, .nil => rfl
  | _, _, .cons _ t => congrArg Nat.succ (dpa_len t)
theorem dpa_get : ∀ {vs : List V} {ds : List PyData} {i : Nat} {v : V}, DpAll K H vs ds → vs[i]? = some v → ∃ d, ds[i]? = some d ∧ Dp K H v d
  | _, _, _, _, .nil, e => by simp at e
  | _, _, 0, _, .cons h _, e => by
    obtain rfl := Option.some.inj e
    exact ⟨_, rfl, h⟩
  | _, _, i + 1, _, .cons _ t, e => dpa_get (i := i) t e
theorem dpa_at : ∀ {vs : List V} {ds : List PyData} {i : Nat} {d : PyData}, DpAll K H vs ds → ds[i]? = some d → ∃ v, vs[i]? = some v ∧ Dp K H v d
  | _, _, _, _, .nil, e => by simp at e
  | _, _, 0, _, .cons h _, e => by
    obtain rfl := Option.some.inj e
    exact ⟨_, rfl, h⟩
  | _, _, i + 1, _, .cons _ t, e => dpa_at (i := i) t e
theorem dpa_app : ∀ {vs ws : List V} {ds es : List PyData}, DpAll K H vs ds → DpAll K H ws es → DpAll K H (vs ++ ws) (ds ++ es)
  | _, _, _, _, .nil, h => h
  | _, _, _, _, .cons h t, h2 => .cons h (dpa_app t h2)
theorem dpa_one (h : Dp K H v d) : DpAll K H [v] [d] := .cons h .nil
theorem dpa_strs : ∀ (ws : List Str), DpAll K H (ws.map V.str) (ws.map PyData.str)
  | [] => .nil
  | w :: ws => .cons (.str w) (dpa_strs ws)
theorem dpa_ints : ∀ (ns : List Int), DpAll K H (ns.map V.int) (ns.map PyData.int)
  | [] => .nil
  | n :: ns => .cons (.int n) (dpa_ints ns)
theorem dpa_bls : ∀ (bs : List Bool), DpAll K H (bs.map V.bl) (bs.map PyData.bool)
  | [] => .nil
  | n :: ns => .cons (.bl n) (dpa_bls ns)
theorem strs_dpa : ∀ {vs : List V} {ws : List Str}, DpAll K H vs (ws.map PyData.str) → vs = ws.map V.str
  | [], [], _ => rfl
  | _ :: _, [], h => nomatch h
  | [], _ :: _, h => nomatch h
  | v :: vs, w :: ws, h => by
    cases h with
    | cons h t => rw [dp_str h, strs_dpa t]; rfl
theorem ints_dpa : ∀ {vs : List V} {ws : List Int}, DpAll K H vs (ws.map PyData.int) → vs = ws.map V.int
  | [], [], _ => rfl
  | _ :: _, [], h => nomatch h
  | [], _ :: _, h => nomatch h
  | v :: vs, w :: ws, h => by
    cases h with
    | cons h t => rw [dp_int h, ints_dpa t]; rfl
theorem bls_dpa : ∀ {vs : List V} {ws : List Bool}, DpAll K H vs (ws.map PyData.bool) → vs = ws.map V.bl
  | [], [], _ => rfl
  | _ :: _, [], h => nomatch h
  | [], _ :: _, h => nomatch h
  | v :: vs, w :: ws, h => by
    cases h with
    | cons h t => rw [dp_bl h, bls_dpa t]; rfl
abbrev strsT (ws : List Str) : PyData := .tuple (ws.map PyData.str)
abbrev strsL (ws : List Str) : PyData := .list (ws.map PyData.str)
theorem dpT {a : Addr} {ws : List Str} (h : SqT K H a (ws.map V.str)) : Dp K H (.ref a) (strsT ws) := .tup h (dpa_strs ws)
theorem dpL {a : Addr} {ws : List Str} (h : SqL K H a (ws.map V.str)) : Dp K H (.ref a) (strsL ws) := .lst h (dpa_strs ws)
theorem dp_strsT {ws : List Str} (h : Dp K H v (strsT ws)) : ∃ a, v = .ref a ∧ SqT K H a (ws.map V.str) := by
  obtain ⟨a, xs, rfl, h1, h2⟩ := dp_tup h
  rw [strs_dpa h2] at h1
  exact ⟨a, rfl, h1⟩
theorem dp_strsL {ws : List Str} (h : Dp K H v (strsL ws)) : ∃ a, v = .ref a ∧ SqL K H a (ws.map V.str) := by
  obtain ⟨a, xs, rfl, h1, h2⟩ := dp_lst h
  rw [strs_dpa h2] at h1
  exact ⟨a, rfl, h1⟩
mutual
/-- data in which no list stands: what a list's change leaves -/
def noList : PyData → Bool
  | .tuple ds => noLists ds
  | .list _ => false
  | _ => true
def noLists : List PyData → Bool
  | [] => true
  | d :: ds => noList d && noLists ds
end
theorem sqT_mu {a p : Addr} {xs : List V} {H' : Hp} {ys : List V} (m : Mu p H H') (hp : H p = some (.lst ys)) (h : SqT K H a xs) : SqT K H' a xs := by
  rcases h with (h | ⟨o, h⟩) | h
  · exact .inl (.inl (m.at h (ne_of h hp (fun z => nomatch z))))
  · exact .inl (.inr ⟨o, m.at h (ne_of h hp (fun z => nomatch z))⟩)
  · exact .inr h
mutual
theorem dp_mu {H' : Hp} {p : Addr} {ys : List V} (m : Mu p H H') (hp : H p = some (.lst ys)) : ∀ {v : V} {d : PyData}, noList d = true → Dp K H v d → Dp K H' v d
  | _, _, _, .non => .non
  | _, _, _, .bl b => .bl b
  | _, _, _, .int i => .int i
  | _, _, _, .str x => .str x
  | _, _, n, .lst h ha => nomatch (show false = true from n)
  | _, _, n, .tup h ha => .tup (sqT_mu m hp h) (dpa_mu m hp n ha)
theorem dpa_mu {H' : Hp} {p : Addr} {ys : List V} (m : Mu p H H') (hp : H p = some (.lst ys)) : ∀ {vs : List V} {ds : List PyData}, noLists ds = true → DpAll K H vs ds → DpAll K H' vs ds
  | _, _, _, .nil => .nil
  | _, _, n, .cons h t => .cons (dp_mu m hp (Bool.and_eq_true_iff.mp n).1 h) (dpa_mu m hp (Bool.and_eq_true_iff.mp n).2 t)
end
theorem noLists_app : ∀ {ds es : List PyData}, noLists ds = true → noLists es = true → noLists (ds ++ es) = true
  | [], _, _, h => h
  | d :: ds, es, h, h2 => by
    obtain ⟨h3, h4⟩ := Bool.and_eq_true_iff.mp (show (noList d && noLists ds) = true from h)
    show (noList d && noLists (ds ++ es)) = true
    rw [h3, noLists_app h4 h2]
    rfl
theorem noLists_of : ∀ {ds : List PyData}, (∀ d ∈ ds, noList d = true) → noLists ds = true
  | [], _ => rfl
  | d :: ds, h => by
    show (noList d && noLists ds) = true
    rw [h d (List.mem_cons_self ..), noLists_of fun e he => h e (List.mem_cons_of_mem _ he)]
    rfl
/-- the book of some windows of n letters -/
abbrev bookD (n : Int) (ws : List Str) : PyData := .tuple [.int n, strsT ws]
theorem dp_book {n : Int} {ws : List Str} (h : Dp K H v (bookD n ws)) : ∃ a t, v = .ref a ∧ SqT K H a [.int n, .ref t] ∧ SqT K H t (ws.map V.str) := by
  obtain ⟨a, xs, rfl, h1, h2⟩ := dp_tup h
  cases h2 with
  | cons h3 h4 =>
    cases h4 with
    | cons h5 h6 =>
      cases h6
      obtain ⟨t, rfl, h7⟩ := dp_strsT h5
      rw [dp_int h3] at h1
      exact ⟨a, t, rfl, h1, h7⟩
theorem bookDp {n : Int} {ws : List Str} {a t : Addr} (h : SqT K H a [.int n, .ref t]) (h2 : SqT K H t (ws.map V.str)) : Dp K H (.ref a) (bookD n ws) := .tup h (.cons (.int n) (.cons (dpT h2) .nil))
theorem tyT {a : Addr} {xs : List V} (h : SqT K H a xs) : TyX K H (.ref a) (.type "tuple") := by
  rcases h with (h | ⟨o, h⟩) | ⟨o, its, n, h, hc, _⟩
  · exact .base (.tup h)
  · exact .fTuple h
  · exact .kTuple h hc
theorem tyL {a : Addr} {xs : List V} (h : SqL K H a xs) : TyX K H (.ref a) (.type "list") := by
  rcases h with (h | ⟨o, h⟩) | ⟨o, its, n, h, hc, _⟩
  · exact .base (.lst h)
  · exact .base (.frz h)
  · exact .kList h hc
end
/-- what may be reckoned as some data behind: te gives such a value, all that was tracked stands -/
def Gv (K : PySem.W.Frag) (te : TE) (σ : L2.St) (H : Hp) (d : PyData) : Prop := ∀ Q : VK, (∀ v H', Ex H H' → Dp K H' v d → Q v H') → te σ H Q
/-- promises: a value, some data, told; nothing else changed -/
def RetD (K : PySem.W.Frag) (d : PyData) (H : Hp) (Q : VK) : Prop := ∀ v H', Ex H H' → Dp K H' v d → Q v H'
theorem RetD.str {K : PySem.W.Frag} {x : Str} {H : Hp} {Q : VK} (k : RetD K (.str x) H Q) {H' : Hp} (e : Ex H H') : Q (.str x) H' := k _ _ e (.str x)
/-! ### what is walked -/
structure Src (J : It) (Hb : Hp) (n : Nat) (item : Nat → V → Hp → Prop) : Prop where
  go : ∀ i H2, Ex Hb H2 → i < n → J.go i H2
  stop : ∀ i H2, Ex Hb H2 → n ≤ i → J.stop i H2
  yld : ∀ i H2 x H3, Ex Hb H2 → i < n → J.yld i H2 x H3 → Ex H2 H3 ∧ item i x H3
theorem src_list {K : PySem.W.Frag} {Hb : Hp} {a : Addr} {xs : List V} (h : SqL K Hb a xs) : Src (Itl K a) Hb xs.length (fun i x _ => xs[i]? = some x) :=
  ⟨fun i H2 e hi => ⟨xs, xs[i], ex_l e h, List.getElem?_eq_getElem hi⟩, fun i H2 e hi => ⟨xs, ex_l e h, hi⟩, fun i H2 x H3 e _ y => by
    obtain ⟨rfl, y⟩ := y
    exact ⟨Ex.refl _, y xs (ex_l e h)⟩⟩
theorem src_tup {K : PySem.W.Frag} {Hb : Hp} {a : Addr} {xs : List V} (h : SqT K Hb a xs) : Src (Itt K a) Hb xs.length (fun i x _ => xs[i]? = some x) :=
  ⟨fun i H2 e hi => ⟨xs, xs[i], ex_t e h, List.getElem?_eq_getElem hi⟩, fun i H2 e hi => ⟨xs, ex_t e h, hi⟩, fun i H2 x H3 e _ y => by
    obtain ⟨rfl, y⟩ := y
    exact ⟨Ex.refl _, y xs (ex_t e h)⟩⟩
theorem src_rng {Hb : Hp} {lo : Int} {n : Nat} : Src (Itr lo n) Hb n (fun i x _ => x = .int (lo + (i : Int))) :=
  ⟨fun i H2 _ hi => hi, fun i H2 _ hi => hi, fun i H2 x H3 _ _ y => by
    obtain ⟨rfl, y⟩ := y
    exact ⟨Ex.refl _, y⟩⟩
theorem src_str {Hb : Hp} {x : Str} : Src (Its x) Hb x.cps.size (fun i v _ => ∃ c, x.cps[i]? = some c ∧ v = .str ⟨#[c]⟩) :=
  ⟨fun i H2 _ hi => hi, fun i H2 _ hi => hi, fun i H2 v H3 _ _ y => by
    obtain ⟨rfl, y⟩ := y
    exact ⟨Ex.refl _, y⟩⟩
/-- a for over such -/
theorem for_src {J : It} {Hb : Hp} {n : Nat} {item : Nat → V → Hp → Prop} {g : TG} {tb : TS} {D : Ends} {σ : L2.St} {H : Hp} (S : Src J Hb n item) (Pv : Nat → L2.St → Hp → Prop) (h0 : Pv 0 σ H) (hE : ∀ i σ H, Pv i σ H → Ex Hb H)
    (hs : ∀ i x σ H H2, i < n → Pv i σ H → Ex H H2 → item i x H2 → g x σ H2 fun σ2 H3 => tb { D with nx := Pv (i + 1), ct := Pv (i + 1), bk := D.nx } σ2 H3) (hd : ∀ σ H, Pv n σ H → D.nx σ H) :
    ∃ W : Nat → Nat → L2.St → Hp → Prop, (∃ m, W 0 m σ H) ∧ ∀ i m σ H, W i m σ H →
      (J.stop i H ∧ D.nx σ H) ∨ (J.go i H ∧ ∃ N : L2.St → Hp → Prop, (∀ σ' H', N σ' H' → ∃ m', m' < m ∧ W (i + 1) m' σ' H') ∧ ∀ x H', J.yld i H x H' → g x σ H' fun σ2 H2 => tb { D with nx := N, ct := N, bk := D.nx } σ2 H2) := by
  refine ⟨fun i m σ H => m = n - i ∧ i ≤ n ∧ Pv i σ H, ⟨n, by simp, Nat.zero_le _, h0⟩, ?_⟩
  rintro i m σ H ⟨rfl, hi, pv⟩
  have e := hE i σ H pv
  by_cases hlt : i < n
  · refine .inr ⟨S.go i H e hlt, Pv (i + 1), fun σ' H' p' => ⟨n - (i + 1), by omega, rfl, hlt, p'⟩, fun x H' y => ?_⟩
    obtain ⟨e2, it⟩ := S.yld i H x H' e hlt y
    exact hs i x σ H H' hlt pv e2 it
  · obtain rfl : i = n := by omega
    exact .inl ⟨S.stop i H e (Nat.le_refl _), hd σ H pv⟩
/-- a comprehension over such: which turns give, what they give -/
def givenD (n : Nat) (f : Nat → Bool) (F : Nat → PyData) : List PyData := ((List.range n).filter f).map F
theorem givenD_yes {n : Nat} {f : Nat → Bool} {F : Nat → PyData} (h : f n = true) : givenD (n + 1) f F = givenD n f F ++ [F n] := by
  unfold givenD
  rw [List.range_succ, List.filter_append, List.map_append, List.filter_cons, if_pos h]
  rfl
theorem givenD_no {n : Nat} {f : Nat → Bool} {F : Nat → PyData} (h : f n = false) : givenD (n + 1) f F = givenD n f F := by
  unfold givenD
  rw [List.range_succ, List.filter_append, List.map_append, List.filter_cons, if_neg (by rw [h]; decide)]
  exact List.append_nil _
theorem givenD_len (n : Nat) (f : Nat → Bool) (F : Nat → PyData) : (givenD n f F).length ≤ n := by
  unfold givenD
  rw [List.length_map]
  have h := List.length_filter_le f (List.range n)
  rwa [List.length_range] at h
theorem lc_src {K : PySem.W.Frag} {J : It} {H1 : Hp} {n : Nat} {item : Nat → V → Hp → Prop} {g : TG} {tt : TT} {te : TE} {vs : List Nat} {σ : L2.St} {D : Addr} {Qd : Hp → Prop} (S : Src J H1 n item) (hn : n ≤ 1000000) (f : Nat → Bool) (F : Nat → PyData) (nl : ∀ i, i < n → noList (F i) = true) (np : H1 D = none)
    (hs : ∀ (i : Nat) (x : V) (H2 : Hp) (Y : VK) (Z : Hp → Prop), i < n → Ex H1 H2 → item i x H2 → (f i = true → ∀ y H3, Ex H2 H3 → Dp K H3 y (F i) → Y y H3) → (f i = false → ∀ H3, Ex H2 H3 → Z H3) →
      g x (wipe σ vs) H2 fun σ2 H3 => wipe σ2 vs = wipe σ vs ∧ tt σ2 H3 fun b H4 => if b = true then te σ2 H4 Y else Z H4)
    (hd : ∀ H' acc, Ex H1 H' → H' D = some (.lst acc) → DpAll K H' acc (givenD n f F) → Qd H') :
    ∃ W : Nat → Nat → Hp → Prop, (∃ m, W 0 m (upd H1 D (.lst []))) ∧ ∀ i m H, W i m H →
      (J.stop i H ∧ Qd H) ∨ (J.go i H ∧ ∃ Nx : Hp → Prop, (∀ H', Nx H' → ∃ m', m' < m ∧ W (i + 1) m' H') ∧ ∀ x H', J.yld i H x H' → g x (wipe σ vs) H' fun σ2 H2 => wipe σ2 vs = wipe σ vs ∧ tt σ2 H2 fun b H3 =>
        if b = true then te σ2 H3 fun y H4 => ∃ acc, H4 D = some (.lst acc) ∧ acc.length < sizeLine ∧ Nx (upd H4 D (.lst (acc ++ [y]))) else Nx H3) := by
  have big : 1000000 < sizeLine := by decide
  -- behind i turns
  let Pv : Nat → Hp → Prop := fun i H => Ex H1 H ∧ ∃ acc, H D = some (.lst acc) ∧ DpAll K H acc (givenD i f F)
  refine ⟨fun i m H => m = n - i ∧ i ≤ n ∧ Pv i H, ⟨n, by simp, Nat.zero_le _, Ex.new np, [], upd_same, .nil⟩, ?_⟩
  rintro i m H ⟨rfl, hi, e, acc, hD, ha⟩
  by_cases hlt : i < n
  · refine .inr ⟨S.go i H e hlt, Pv (i + 1), fun H' p' => ⟨n - (i + 1), by omega, rfl, hlt, p'⟩, fun x H' y => ?_⟩
    obtain ⟨e2, it⟩ := S.yld i H x H' e hlt y
    refine hs i x H' _ _ hlt (e.trans e2) it (fun hf z H6 e6 hz => ?_) (fun hf H5 e5 => ?_)
    · have e46 : Ex H H6 := e2.trans e6
      have h6 : H6 D = some (.lst acc) := e46 _ _ hD
      have m6 : Mu D H6 (upd H6 D (.lst (acc ++ [z]))) := fun q hq => upd_ne hq
      refine ⟨acc, h6, ?_, Ex.mut (e.trans e46) np, acc ++ [z], upd_same, ?_⟩
      · have l1 := dpa_len ha
        have l2 := givenD_len i f F
        omega
      · rw [givenD_yes hf]
        have nl0 : noLists (givenD i f F) = true := noLists_of fun d hd => by
          obtain ⟨j, hj, rfl⟩ := List.mem_map.mp hd
          have hj2 := List.mem_range.mp (List.mem_filter.mp hj).1
          exact nl j (by omega)
        exact dpa_app (dpa_mu m6 h6 nl0 (dpa_ex e46 ha)) (dpa_one (dp_mu m6 h6 (nl i hlt) hz))
    · refine ⟨e.trans (e2.trans e5), acc, e5 _ _ (e2 _ _ hD), ?_⟩
      rw [givenD_no hf]
      exact dpa_ex (e2.trans e5) ha
  · obtain rfl : i = n := by omega
    exact .inl ⟨S.stop i H e (Nat.le_refl _), hd H acc e hD ha⟩
/-! the same by what is walked -/
section
variable {K : PySem.W.Frag} {H1 : Hp} {g : TG} {tt : TT} {te : TE} {vs : List Nat} {σ : L2.St} {D : Addr} {Qd : Hp → Prop}
abbrev LcTurn (K : PySem.W.Frag) (H1 : Hp) (n : Nat) (item : Nat → V → Hp → Prop) (g : TG) (tt : TT) (te : TE) (vs : List Nat) (σ : L2.St) (f : Nat → Bool) (F : Nat → PyData) : Prop :=
  ∀ (i : Nat) (x : V) (H2 : Hp) (Y : VK) (Z : Hp → Prop), i < n → Ex H1 H2 → item i x H2 → (f i = true → ∀ y H3, Ex H2 H3 → Dp K H3 y (F i) → Y y H3) → (f i = false → ∀ H3, Ex H2 H3 → Z H3) →
    g x (wipe σ vs) H2 fun σ2 H3 => wipe σ2 vs = wipe σ vs ∧ tt σ2 H3 fun b H4 => if b = true then te σ2 H4 Y else Z H4
abbrev LcEnd (K : PySem.W.Frag) (H1 : Hp) (n : Nat) (f : Nat → Bool) (F : Nat → PyData) (D : Addr) (Qd : Hp → Prop) : Prop :=
  ∀ H' acc, Ex H1 H' → H' D = some (.lst acc) → DpAll K H' acc (givenD n f F) → Qd H'
/-- what a comprehension's reading asks, J what is walked -/
abbrev LcGo (J : It) (H1 : Hp) (g : TG) (tt : TT) (te : TE) (vs : List Nat) (σ : L2.St) (D : Addr) (Qd : Hp → Prop) : Prop :=
  ∃ W : Nat → Nat → Hp → Prop, (∃ m, W 0 m (upd H1 D (.lst []))) ∧ ∀ i m H, W i m H →
      (J.stop i H ∧ Qd H) ∨ (J.go i H ∧ ∃ Nx : Hp → Prop, (∀ H', Nx H' → ∃ m', m' < m ∧ W (i + 1) m' H') ∧ ∀ x H', J.yld i H x H' → g x (wipe σ vs) H' fun σ2 H2 => wipe σ2 vs = wipe σ vs ∧ tt σ2 H2 fun b H3 =>
        if b = true then te σ2 H3 fun y H4 => ∃ acc, H4 D = some (.lst acc) ∧ acc.length < sizeLine ∧ Nx (upd H4 D (.lst (acc ++ [y]))) else Nx H3)
theorem lc_rng (K : PySem.W.Frag) {lo : Int} {n : Nat} (f : Nat → Bool) (F : Nat → PyData) (np : H1 D = none) (hn : n ≤ 1000000) (nl : ∀ i, i < n → noList (F i) = true) (hs : LcTurn K H1 n (fun i x _ => x = .int (lo + (i : Int))) g tt te vs σ f F) (hd : LcEnd K H1 n f F D Qd) : LcGo (Itr lo n) H1 g tt te vs σ D Qd := lc_src src_rng hn f F nl np hs hd
theorem lc_lst {a : Addr} {xs : List V} (h : SqL K H1 a xs) (f : Nat → Bool) (F : Nat → PyData) (np : H1 D = none) (hn : xs.length ≤ 1000000) (nl : ∀ i, i < xs.length → noList (F i) = true) (hs : LcTurn K H1 xs.length (fun i x _ => xs[i]? = some x) g tt te vs σ f F) (hd : LcEnd K H1 xs.length f F D Qd) : LcGo (Itl K a) H1 g tt te vs σ D Qd := lc_src (src_list h) hn f F nl np hs hd
theorem lc_tp {a : Addr} {xs : List V} (h : SqT K H1 a xs) (f : Nat → Bool) (F : Nat → PyData) (np : H1 D = none) (hn : xs.length ≤ 1000000) (nl : ∀ i, i < xs.length → noList (F i) = true) (hs : LcTurn K H1 xs.length (fun i x _ => xs[i]? = some x) g tt te vs σ f F) (hd : LcEnd K H1 xs.length f F D Qd) : LcGo (Itt K a) H1 g tt te vs σ D Qd := lc_src (src_tup h) hn f F nl np hs hd
theorem lc_st (K : PySem.W.Frag) {z : Str} (f : Nat → Bool) (F : Nat → PyData) (np : H1 D = none) (hn : z.cps.size ≤ 1000000) (nl : ∀ i, i < z.cps.size → noList (F i) = true) (hs : LcTurn K H1 z.cps.size (fun i v _ => ∃ c, z.cps[i]? = some c ∧ v = .str ⟨#[c]⟩) g tt te vs σ f F) (hd : LcEnd K H1 z.cps.size f F D Qd) : LcGo (Its z) H1 g tt te vs σ D Qd := lc_src src_str hn f F nl np hs hd
/-- a comprehension over a list or a tuple -/
theorem lc_sq {a : Addr} {xs : List V} {Qd : Addr → Hp → Prop} (h : Sq K H1 a xs) (f : Nat → Bool) (F : Nat → PyData) (hn : xs.length ≤ 1000000) (nl : ∀ i, i < xs.length → noList (F i) = true) (hs : LcTurn K H1 xs.length (fun i x _ => xs[i]? = some x) g tt te vs σ f F)
    (hd : ∀ D, H1 D = none → LcEnd K H1 xs.length f F D (Qd D)) :
    ((∃ xs, SqL K H1 a xs) ∧ ∀ D, H1 D = none → LcGo (Itl K a) H1 g tt te vs σ D (Qd D)) ∨ ((∃ xs, SqT K H1 a xs) ∧ ∀ D, H1 D = none → LcGo (Itt K a) H1 g tt te vs σ D (Qd D)) :=
  h.elim (fun q => .inl ⟨⟨_, q⟩, fun D np => lc_lst q f F np hn nl hs (hd D np)⟩) fun q => .inr ⟨⟨_, q⟩, fun D np => lc_tp q f F np hn nl hs (hd D np)⟩
/-- no test -/
theorem lc_yes {Y : VK} {Z : Hp → Prop} {H : Hp} (h : te σ H Y) : tYes σ H (fun b H4 => if b = true then te σ H4 Y else Z H4) := by
  show (if true = true then te σ H Y else Z H)
  exact iteT h
/-! for loops -/
abbrev FoGo (J : It) (g : TG) (tb : TS) (D : Ends) (σ : L2.St) (H : Hp) : Prop := ∃ W : Nat → Nat → L2.St → Hp → Prop, (∃ m, W 0 m σ H) ∧ ∀ i m σ H, W i m σ H →
      (J.stop i H ∧ D.nx σ H) ∨ (J.go i H ∧ ∃ N : L2.St → Hp → Prop, (∀ σ' H', N σ' H' → ∃ m', m' < m ∧ W (i + 1) m' σ' H') ∧ ∀ x H', J.yld i H x H' → g x σ H' fun σ2 H2 => tb { D with nx := N, ct := N, bk := D.nx } σ2 H2)
abbrev FoTurn (n : Nat) (item : Nat → V → Hp → Prop) (g : TG) (tb : TS) (D : Ends) (Pv : Nat → L2.St → Hp → Prop) : Prop :=
  ∀ i x σ H H2, i < n → Pv i σ H → Ex H H2 → item i x H2 → g x σ H2 fun σ2 H3 => tb { D with nx := Pv (i + 1), ct := Pv (i + 1), bk := D.nx } σ2 H3
variable {tb : TS} {Dn : Ends} {H Hb : Hp}
theorem fo_rng {lo : Int} {n : Nat} (Pv : Nat → L2.St → Hp → Prop) (h0 : Pv 0 σ H) (hs : ∀ i σ H, i < n → Pv i σ H → g (.int (lo + (i : Int))) σ H fun σ2 H3 => tb { Dn with nx := Pv (i + 1), ct := Pv (i + 1), bk := Dn.nx } σ2 H3) (hd : ∀ σ H, Pv n σ H → Dn.nx σ H) : FoGo (Itr lo n) g tb Dn σ H :=
  for_range Pv h0 hs hd
theorem fo_lst {a : Addr} {xs : List V} (h : SqL K Hb a xs) (Pv : Nat → L2.St → Hp → Prop) (h0 : Pv 0 σ H) (hE : ∀ i σ H, Pv i σ H → Ex Hb H) (hs : ∀ i x σ H, xs[i]? = some x → Pv i σ H → g x σ H fun σ2 H3 => tb { Dn with nx := Pv (i + 1), ct := Pv (i + 1), bk := Dn.nx } σ2 H3) (hd : ∀ σ H, Pv xs.length σ H → Dn.nx σ H) :
    (∃ ys, SqL K H a ys) ∧ FoGo (Itl K a) g tb Dn σ H := ⟨⟨_, ex_l (hE _ _ _ h0) h⟩, for_list Pv h0 (fun i σ H _ p => ex_l (hE i σ H p) h) hs hd⟩
theorem fo_tp {a : Addr} {xs : List V} (h : SqT K Hb a xs) (Pv : Nat → L2.St → Hp → Prop) (h0 : Pv 0 σ H) (hE : ∀ i σ H, Pv i σ H → Ex Hb H) (hs : ∀ i x σ H, xs[i]? = some x → Pv i σ H → g x σ H fun σ2 H3 => tb { Dn with nx := Pv (i + 1), ct := Pv (i + 1), bk := Dn.nx } σ2 H3) (hd : ∀ σ H, Pv xs.length σ H → Dn.nx σ H) :
    (∃ ys, SqT K H a ys) ∧ FoGo (Itt K a) g tb Dn σ H := ⟨⟨_, ex_t (hE _ _ _ h0) h⟩, for_tup Pv h0 (fun i σ H _ p => ex_t (hE i σ H p) h) hs hd⟩
theorem fo_sq {a : Addr} {xs : List V} (h : Sq K Hb a xs) (Pv : Nat → L2.St → Hp → Prop) (h0 : Pv 0 σ H) (hE : ∀ i σ H, Pv i σ H → Ex Hb H) (hs : ∀ i x σ H, xs[i]? = some x → Pv i σ H → g x σ H fun σ2 H3 => tb { Dn with nx := Pv (i + 1), ct := Pv (i + 1), bk := Dn.nx } σ2 H3) (hd : ∀ σ H, Pv xs.length σ H → Dn.nx σ H) :
    ((∃ ys, SqL K H a ys) ∧ FoGo (Itl K a) g tb Dn σ H) ∨ ((∃ ys, SqT K H a ys) ∧ FoGo (Itt K a) g tb Dn σ H) :=
  h.elim (fun q => .inl (fo_lst q Pv h0 hE hs hd)) fun q => .inr (fo_tp q Pv h0 hE hs hd)
end
/-! ### repr of data -/
structure Shw (d : PyData) : Prop where
  sh : d.showable = true
  nd : d.hasDict = false
  dp : d.depth ≤ 60
  sz : d.shown.length ≤ sizeLine
theorem cr_repr {X : Cx} (hgd : X.A.guards = some []) (hu : X.A.units + 64 < cLine) : CallR X (.builtin "repr") (fun xs H Q => ∃ v d, xs = [v] ∧ Dp X.K H v d ∧ Shw d ∧ Q (.str d.shown) H) := by
  intro pins st σ H xs us Q I r h
  obtain ⟨v, d, rfl, hd, hs, q⟩ := h
  obtain ⟨u, rfl, ru⟩ := vals1 r
  have big : ∀ a, u = .ref a → wpAny (model X.prog X.w) X.A (call (.builtin "repr") [u]) (EP X pins σ Q) X.xe st := by
    rintro a rfl
    obtain ⟨as, rd⟩ := Dp.reads I d v _ hd ru
    have hh := hs.nd
    refine repr_of_reads' rd hs.sh (fun z => by rw [hh] at z; cases z) hgd (by have := hs.dp; omega) (fun _ _ e => e) (fun h' t tk hk => ?_) hs.sz
    exact ⟨.str d.shown, H, I.kept (t' := tk) hk, ⟨_, rfl⟩, q⟩
  cases hd with
  | non => cases ru; exact P.repr_of_none ⟨.str _, H, I.tok _, ⟨_, rfl⟩, q⟩
  | bl b => cases ru; exact P.repr_of_bool ⟨.str _, H, I.tok _, ⟨_, rfl⟩, q⟩
  | int i =>
    obtain ⟨t, rfl⟩ := ru
    exact P.repr_of_int (of_decide_eq_true hs.sh) ⟨.str _, H, I.tok _, ⟨_, rfl⟩, q⟩
  | str x =>
    obtain ⟨t, rfl⟩ := ru
    exact P.repr_of_str ⟨.str _, H, I.tok _, ⟨_, rfl⟩, q⟩ hs.sz
  | lst _ _ => exact big _ ru
  | tup _ _ => exact big _ ru
/-! ### how long data is when it is shown -/
mutual
/-- texts of signs below 16 ^ 8, ints of at most 1900 bits, no dict; and a bound of what is shown -/
def tame : PyData → Bool
  | .none => true
  | .bool _ => true
  | .int i => decide (i.natAbs < 2 ^ 200)
  | .str x => x.cps.toList.all (fun c => decide (c < 128))
  | .list ds => tames ds
  | .tuple ds => tames ds
  | .dict _ => false
def tames : List PyData → Bool
  | [] => true
  | d :: ds => tame d && tames ds
end
mutual
def wide : PyData → Nat
  | .none => 4
  | .bool _ => 5
  | .int _ => 300
  | .str x => 10 * x.length + 2
  | .list ds => wides ds + 4
  | .tuple ds => wides ds + 4
  | .dict _ => 0
def wides : List PyData → Nat
  | [] => 0
  | d :: ds => wide d + 2 + wides ds
end
theorem textFrom_le : ∀ (ts : List Str) (k : Nat) (acc : Str), (textFrom k acc ts).length ≤ acc.length + (ts.map fun t => t.length + 2).sum
  | [], k, acc => Nat.le_refl _
  | t :: ts, k, acc => by
    have ih := textFrom_le ts (k + 1) (acc ++ (if k > 0 then ", " else "" : String) ++ t)
    have e1 : (acc ++ ((if k > 0 then ", " else "" : String) : Str) ++ t).length = acc.length + ((if k > 0 then ", " else "" : String) : Str).length + t.length := by
      show (acc.cps ++ _ ++ t.cps).size = _
      rw [Array.size_append, Array.size_append]
      rfl
    have e2 : ((if k > 0 then ", " else "" : String) : Str).length ≤ 2 := by split <;> decide
    show (textFrom (k + 1) _ ts).length ≤ _
    rw [List.map_cons, List.sum_cons]
    omega
theorem strLen_app (a b : Str) : (a ++ b).length = a.length + b.length := by
  show (a.cps ++ b.cps).size = _
  rw [Array.size_append]
  rfl
theorem join_le : ∀ (ts : List Str), (Str.join ", " ts).length ≤ (ts.map fun t => t.length + 2).sum
  | [] => Nat.le_refl _
  | [x] => by show x.length ≤ x.length + 2 + 0; omega
  | x :: y :: r => by
    have ih := join_le (y :: r)
    show (x ++ ", " ++ Str.join ", " (y :: r)).length ≤ _
    rw [strLen_app, strLen_app, List.map_cons, List.sum_cons]
    have e : (((", " : String)) : Str).length = 2 := by decide
    omega
theorem int_shown (i : Int) (h : i.natAbs < 2 ^ 200) : ((toString i : String) : Str).length ≤ 300 := by
  have hl : i.natAbs.log2 < 200 := by
    by_cases h0 : i.natAbs = 0
    · rw [h0]; decide
    · exact (Nat.log2_lt h0).mpr h
  have z := int_text_length_le (a := i) (k := 200) (by decide) hl
  rw [PySem.ofString_length]
  omega
mutual
theorem tame_show : ∀ (d : PyData), tame d = true → d.showable = true ∧ d.hasDict = false ∧ d.shown.length ≤ wide d
  | .none, _ => ⟨rfl, rfl, by show ((("None" : String)) : Str).length ≤ 4; decide⟩
  | .bool b, _ => ⟨rfl, rfl, by cases b <;> decide⟩
  | .int i, h => by
    have hi : i.natAbs < 2 ^ 200 := of_decide_eq_true h
    refine ⟨decide_eq_true ?_, rfl, int_shown i hi⟩
    by_cases h0 : i.natAbs = 0
    · rw [h0]; decide
    · have := (Nat.log2_lt h0).mpr hi
      omega
  | .str x, h => by
    refine ⟨rfl, rfl, StrLaws.reprText_len x fun c hc => ?_⟩
    have := of_decide_eq_true (List.all_eq_true.mp (show x.cps.toList.all (fun c => decide (c < 128)) = true from h) c hc)
    omega
  | .list ds, h => by
    obtain ⟨h1, h2, h3⟩ := tames_show ds h
    refine ⟨h1, h2, ?_⟩
    show (listText (PyData.shownAll ds)).length ≤ wides ds + 4
    unfold listText
    have z := textFrom_le (PyData.shownAll ds) 0 "["
    have e1 : (((("[" : String)) : Str)).length = 1 := by decide
    have e2 : (((("]" : String)) : Str)).length = 1 := by decide
    rw [strLen_app]
    omega
  | .tuple ds, h => by
    obtain ⟨h1, h2, h3⟩ := tames_show ds h
    refine ⟨h1, h2, ?_⟩
    show (tupleText (PyData.shownAll ds)).length ≤ wides ds + 4
    unfold tupleText
    have z := join_le (PyData.shownAll ds)
    have e1 : (((("(" : String)) : Str)).length = 1 := by decide
    have e2 : ((((if (PyData.shownAll ds).length == 1 then ",)" else ")" : String)) : Str)).length ≤ 2 := by split <;> decide
    rw [strLen_app, strLen_app]
    omega
  | .dict _, h => nomatch (show false = true from h)
theorem tames_show : ∀ (ds : List PyData), tames ds = true → PyData.showableAll ds = true ∧ PyData.hasDictAll ds = false ∧ ((PyData.shownAll ds).map fun t => t.length + 2).sum ≤ wides ds
  | [], _ => ⟨rfl, rfl, Nat.le_refl _⟩
  | d :: ds, h => by
    obtain ⟨a, b⟩ := Bool.and_eq_true_iff.mp (show (tame d && tames ds) = true from h)
    obtain ⟨a1, a2, a3⟩ := tame_show d a
    obtain ⟨b1, b2, b3⟩ := tames_show ds b
    refine ⟨?_, ?_, ?_⟩
    · show (d.showable && PyData.showableAll ds) = true
      rw [a1, b1]
      rfl
    · show (d.hasDict || PyData.hasDictAll ds) = false
      rw [a2, b2]
      rfl
    · show (((d.shown :: PyData.shownAll ds).map fun t => t.length + 2)).sum ≤ wide d + 2 + wides ds
      rw [List.map_cons, List.sum_cons]
      omega
end
theorem shw_of {d : PyData} (h : tame d = true) (hd : d.depth ≤ 60) (hw : wide d ≤ sizeLine) : Shw d := by
  obtain ⟨h1, h2, h3⟩ := tame_show d h
  exact ⟨h1, h2, hd, Nat.le_trans h3 hw⟩
end My

/-! texts as lists of signs; words, windows, places -/
namespace My
open PySem PySem.Spec PyProof.Rows L2 Evl
/-! ### texts -/
def tx (l : List Nat) : Str := ⟨l.toArray⟩
def sg (x : Str) : List Nat := x.cps.toList
theorem sg_tx (l : List Nat) : sg (tx l) = l := rfl
theorem tx_sg (x : Str) : tx (sg x) = x := by
  cases x
  rfl
theorem sg_inj {x y : Str} (h : sg x = sg y) : x = y := by rw [← tx_sg x, h, tx_sg]
theorem len_sg (x : Str) : x.length = (sg x).length := rfl
theorem sg_app (x y : Str) : sg (x ++ y) = sg x ++ sg y := by
  show (x.cps ++ y.cps).toList = _
  rw [Array.toList_append]
  rfl
/-- small letters -/
def Word (x : Str) : Prop := ∀ c ∈ sg x, 97 ≤ c ∧ c ≤ 122
def lt (x y : Str) : Prop := sg x < sg y
instance (x y : Str) : Decidable (lt x y) := inferInstanceAs (Decidable (sg x < sg y))
def begS (x : Str) : Str := tx (sg x).dropLast
def endS (x : Str) : Str := tx ((sg x).drop 1)
theorem cut_beg (x : Str) : cutS x none (some (-1)) = begS x := by
  unfold cutS begS tx sg
  have e1 : HT.sIx x.length 0 none = 0 := rfl
  have e2 : HT.sIx x.length x.length (some (-1)) = x.length - 1 := by
    show (if (-1 : Int) < 0 then ((-1 : Int) + (x.length : Int)).toNat else min (-1 : Int).toNat x.length) = _
    rw [if_pos (by decide)]
    omega
  rw [e1, e2, List.drop_zero, Nat.sub_zero, List.dropLast_eq_take]
  rfl
theorem cut_end (x : Str) : cutS x (some 1) none = endS x := by
  unfold cutS endS tx sg
  have e1 : HT.sIx x.length 0 (some 1) = min 1 x.length := rfl
  have e2 : HT.sIx x.length x.length none = x.length := rfl
  rw [e1, e2]
  congr 1
  have hl : x.cps.toList.length = x.length := rfl
  by_cases h : 1 ≤ x.length
  · rw [Nat.min_eq_left h, List.take_of_length_le]
    rw [List.length_drop]
    omega
  · have h0 : x.length = 0 := by omega
    rw [h0] at hl
    rw [List.length_eq_zero_iff.mp hl, h0]
    rfl
theorem cut_at (x : Str) (a b : Nat) (hb : b ≤ x.length) : cutS x (some (a : Int)) (some (b : Int)) = tx (((sg x).drop (min a x.length)).take (b - min a x.length)) := by
  unfold cutS tx sg
  have e1 : HT.sIx x.length 0 (some (a : Int)) = min a x.length := HT.sIx_nat _ _ _
  have e2 : HT.sIx x.length x.length (some (b : Int)) = min b x.length := HT.sIx_nat _ _ _
  rw [e1, e2, Nat.min_eq_left hb]
/-- ascending, no two alike -/
def Asc (ws : List Str) : Prop := ws.Pairwise lt
/-- windows of n letters -/
def Win (n : Nat) (ws : List Str) : Prop := (∀ x ∈ ws, Word x ∧ x.length = n) ∧ Asc ws
structure Bk (n : Nat) (ws : List Str) : Prop where
  lo : 2 ≤ n
  hi : n ≤ 6
  win : Win n ws
  ne : ws ≠ []
  few : ws.length ≤ 80
theorem atI_of {α : Type} {xs : List α} {i : Int} {j : Nat} {v : α} (h : i = (j : Int)) (hx : xs[j]? = some v) : atI xs i = some v := by
  subst h
  exact atI_nat hx
theorem get_map {α β : Type} {f : α → β} {xs : List α} {j : Nat} (h : j < xs.length) : (xs.map f)[j]? = some (f xs[j]) := by
  rw [List.getElem?_map, List.getElem?_eq_getElem h]
  rfl
theorem str_at {ws : List Str} {i : Nat} {x : V} (h : (ws.map V.str)[i]? = some x) : ∃ z, ws[i]? = some z ∧ x = .str z := by
  rw [List.getElem?_map] at h
  cases e : ws[i]? with
  | none => rw [e] at h; cases h
  | some z => rw [e] at h; exact ⟨z, rfl, (Option.some.inj h).symm⟩
theorem givenD_all {n : Nat} {F : Nat → PyData} : givenD n (fun _ => true) F = (List.range n).map F := by
  unfold givenD
  rw [List.filter_eq_self.mpr (fun _ _ => rfl)]
theorem sz_of {n : Nat} (h : n ≤ 1000000) : n ≤ sizeLine := Nat.le_trans h (by decide)
theorem sz_lt {n : Nat} (h : n ≤ 1000000) : n < sizeLine := Nat.lt_of_le_of_lt h (by decide)
theorem word_in (c : Nat) : decide (c ∈ sg ("abcdefghijklmnopqrstuvwxyz" : Str)) = decide (97 ≤ c ∧ c ≤ 122) := by
  have e : sg ("abcdefghijklmnopqrstuvwxyz" : Str) = (List.range 26).map (· + 97) := by decide +kernel
  rw [e]
  by_cases h : 97 ≤ c ∧ c ≤ 122
  · rw [decide_eq_true h]
    exact decide_eq_true (List.mem_map.mpr ⟨c - 97, List.mem_range.mpr (by omega), by omega⟩)
  · rw [decide_eq_false h]
    exact decide_eq_false fun z => h (by
      obtain ⟨a, ha, rfl⟩ := List.mem_map.mp z
      have := List.mem_range.mp ha
      omega)
end My

/-! the layer's rules with the written part told by name (a comprehension's block has it by its own) -/
namespace My
open PySem PySem.Spec PyProof.Rows L2 Evl
section
variable {X : Cx} {K : PySem.W.Frag} {t : TA} {tl te to : TE} {o e e2 a : Expr} {es : List Expr} {tg : Expr} {p pos apos cpos tpos : Pos}
theorem ix_tupK (h : X.K = K := by rfl) : IxR X (rIxT K) := by subst h; exact ix_tup
theorem ix_listK (h : X.K = K := by rfl) : IxR X (rIxL K) := by subst h; exact ix_list
theorem ix_seqK (h : X.K = K := by rfl) : IxR X (rIx K) := by subst h; exact ix_seq
theorem op_inK (h : X.K = K := by rfl) : OpR X (compareOp .In) (rIn K false) := by subst h; exact op_in_seq
theorem op_notInK (h : X.K = K := by rfl) : OpR X (compareOp .NotIn) (rIn K true) := by subst h; exact op_notIn_seq
theorem op_eqDK (hu : X.A.units + 64 < cLine) (h : X.K = K := by rfl) : OpR X (compareOp .Eq) (rEqD K) := by subst h; exact op_eqD hu
theorem op_neDK (hu : X.A.units + 64 < cLine) (h : X.K = K := by rfl) : OpR X (compareOp .NotEq) (rNeD K) := by subst h; exact op_neD hu
theorem op_catAK (h : X.K = K := by rfl) : OpR X (binaryOp .Add) (rCatA K) := by subst h; exact op_catA
theorem sl_listK (h : X.K = K := by rfl) : SlR X (rSlL K) := by subst h; exact sl_list
theorem sl_tupK (h : X.K = K := by rfl) : SlR X (rSlA K) := by subst h; exact sl_tupA
def rLenQ (K : PySem.W.Frag) : List V → Hp → VK → Prop := fun xs H Q => ∃ a ys, xs = [.ref a] ∧ Sq K H a ys ∧ Q (.int ys.length) H
theorem call_lenK (h : X.K = K := by rfl) : CallR X (.builtin "len") (rLenQ K) := by subst h; exact call_len_seq
def rLenA (K : PySem.W.Frag) : List V → Hp → VK → Prop := fun xs H Q => ∃ x n, xs = [x] ∧ LenV K x H n ∧ Q (.int n) H
theorem call_lenAK (h : X.K = K := by rfl) : CallR X (.builtin "len") (rLenA K) := by subst h; exact call_len
theorem cr_allK (hc : X.calm = true) (h : X.K = K := by rfl) : CallR X (.builtin "all") (rAll K) := by subst h; exact cr_all hc
theorem cr_anyK (hc : X.calm = true) (h : X.K = K := by rfl) : CallR X (.builtin "any") (rAny K) := by subst h; exact cr_any hc
theorem cr_sumK (hc : X.calm = true) (h : X.K = K := by rfl) : CallR X (.builtin "sum") (rSum K) := by subst h; exact cr_sum hc
theorem cr_maxK (hc : X.calm = true) (h : X.K = K := by rfl) : CallR X (.builtin "max") (rMax K) := by subst h; exact cr_max hc
theorem cr_minK (hc : X.calm = true) (h : X.K = K := by rfl) : CallR X (.builtin "min") (rMin K) := by subst h; exact cr_min hc
theorem cr_sortedSK (h : X.K = K := by rfl) : CallR X (.builtin "sorted") (rSortedS K) := by subst h; exact cr_sortedS
theorem call_isiK2 (h : X.K = K := by rfl) : CallR X (.builtin "isinstance") (rIsi K) := by subst h; exact call_isi
def rListQ (K : PySem.W.Frag) : List V → Hp → VK → Prop := fun xs H Q => ∃ a ys, xs = [.ref a] ∧ Sq K H a ys ∧ ∀ l, H l = none → Q (.ref l) (upd H l (.lst ys))
theorem call_listK (h : X.K = K := by rfl) : CallR X (.type "list") (rListQ K) := by subst h; exact call_list_of
def rTupQ (K : PySem.W.Frag) : List V → Hp → VK → Prop := fun xs H Q => ∃ a ys, xs = [.ref a] ∧ ((SqL K H a ys ∧ ∀ l, H l = none → Q (.ref l) (upd H l (.tup ys))) ∨ (SqT K H a ys ∧ Q (.ref a) H))
theorem call_tupleK (h : X.K = K := by rfl) : CallR X (.type "tuple") (rTupQ K) := by subst h; exact call_tuple_of
def rRepr (K : PySem.W.Frag) : List V → Hp → VK → Prop := fun xs H Q => ∃ v d, xs = [v] ∧ Dp K H v d ∧ Shw d ∧ Q (.str d.shown) H
theorem cr_reprK (hgd : X.A.guards = some []) (hu : X.A.units + 64 < cLine) (h : X.K = K := by rfl) : CallR X (.builtin "repr") (rRepr K) := by subst h; exact cr_repr hgd hu
theorem pi_listK (h : PE X a tl) (e : X.K = K := by rfl) : PI X tg a (iList K tl) := by subst e; exact pi_list h
theorem pi_tupK (h : PE X a tl) (e : X.K = K := by rfl) : PI X tg a (iTup K tl) := by subst e; exact pi_tup h
theorem pi_seqK (h : PE X a tl) (e : X.K = K := by rfl) : PI X tg a (iSeq K tl) := by subst e; exact pi_seq h
theorem pi_enumK {elts : List Expr} {kk : Nat} (hm : X.mg "enumerate" = none) (ha : PA X [e] t) (h : X.K = K := by rfl) (hg : Gl X "enumerate" := by rfl) (hs : starEach [e] X.env = [(false, eval e X.env)] := by rfl) :
    PI X (.Tuple elts kk tpos) (.Call (.Name "enumerate" p) [e] [] pos) (iEnum K t) := by subst h; exact pi_enum hg hm ha hs
theorem pi_zipK {elts : List Expr} {kk : Nat} (hm : X.mg "zip" = none) (ha : PA X [e, e2] t) (h : X.K = K := by rfl) (hg : Gl X "zip" := by rfl) (hs : starEach [e, e2] X.env = (false, eval e X.env) :: starEach [e2] X.env := by rfl) (hpl : (backTo pos (starEach [e2] X.env)).any (·.1) = false := by rfl) :
    PI X (.Tuple elts kk tpos) (.Call (.Name "zip" p) [e, e2] [] pos) (iZip K t) := by subst h; exact pi_zip hg hm ha hs hpl
def rJoin (K : PySem.W.Frag) : V → List V → Hp → VK → Prop := fun x xs H Q => ∃ z a, ∃ ys : List Str, x = .str z ∧ xs = [.ref a] ∧ Sq K H a (ys.map V.str) ∧ (ys.map (·.length)).sum + ys.length * z.length ≤ 16777216 ∧ Q (.str (Txt.join z ys)) H
theorem pe_joinK (ho : PE X o to) (he : PE X e te) (h : X.K = K := by rfl) (hs : starEach [e] X.env = [(false, eval e X.env)] := by rfl) (hbase : attributeBase o "join" X.env (eval o X.env) = eval o X.env := by rfl) (hline : (apos.endLine == pos.line) = true := by rfl) :
    PE X (.Call (.Attribute o "join" apos) [e] [] pos) (tM1 (rJoin K) to te) := by subst h; exact pe_join ho he hs hbase hline
theorem pe_bmK {T id : String} {name : Str} {r : V → List V → Hp → VK → Prop} (pa : PlainAttrs T) (slot : Slot T name id) (hty : typeOf (.builtin id) = pure (.type "method_descriptor")) (hm : MtR X id r) (ho : PE X o to) (ha : PA X (e :: es) t) (h : X.K = K := by rfl)
    (hbase : attributeBase o name X.env (eval o X.env) = eval o X.env := by rfl)
    (hfew : ((backTo cpos (starEach (e :: es) X.env)).all (fun x => !x.1) && (backToKw cpos (keywordEach [] X.env)).all (fun x => x.1.isSome) && decide ((e :: es).length + ([] : List Keyword).length + (if ([] : List Keyword).isEmpty then 0 else 1) < 30)) = true := by rfl)
    (hline : (apos.endLine == cpos.line) = true := by rfl) (hs : starEach (e :: es) X.env = (false, eval e X.env) :: starEach es X.env := by rfl) (hplain : (backTo cpos (starEach es X.env)).any (·.1) = false := by rfl) :
    PE X (.Call (.Attribute o name apos) (e :: es) [] cpos) (tBM K T r to t) := by subst h; exact pe_bm pa slot hty hm ho ha hbase hfew hline hs hplain
theorem pe_bm0K {T id : String} {name : Str} {r : V → List V → Hp → VK → Prop} (pa : PlainAttrs T) (slot : Slot T name id) (hty : typeOf (.builtin id) = pure (.type "method_descriptor")) (hm : MtR X id r) (ho : PE X o to) (h : X.K = K := by rfl)
    (hbase : attributeBase o name X.env (eval o X.env) = eval o X.env := by rfl) (hline : (apos.endLine == cpos.line) = true := by rfl) : PE X (.Call (.Attribute o name apos) [] [] cpos) (tBM0 K T r to) := by subst h; exact pe_bm0 pa slot hty hm ho hbase hline
def tTruth (K : PySem.W.Frag) (te : TE) : TT := fun σ H Q => te σ H fun x H' => ∃ k, TruV K x H' k ∧ Q k H'
theorem pt_truthK (ha : PE X a te) (he : ∀ whole, isTrue a X.env whole = (do let v ← whole; standAt a.pos; holding [v] (truthy v)) := by intro _; rfl) (h : X.K = K := by rfl) : PT X a (tTruth K te) := by subst h; exact pt_truth ha he
theorem pe_get2 {f : Expr} {td ty tx : TE} (hu : X.A.units + 1 < cLine) (ho : PE X o td) (he : PE X e ty) (hf : PE X f tx) (h1 : attributeBase o "get" X.env (eval o X.env) = eval o X.env := by rfl)
    (h2 : ((backTo cpos (starEach [e, f] X.env)).all (fun x => !x.1) && (backToKw cpos (keywordEach [] X.env)).all (fun x => x.1.isSome) && decide (([e, f] : List Expr).length + ([] : List Keyword).length + (if ([] : List Keyword).isEmpty then 0 else 1) < 30)) = true := by rfl)
    (h3 : (apos.endLine == cpos.line) = true := by rfl) (h4 : backTo cpos (starEach [e, f] X.env) = [(false, eval e X.env), (false, eval f X.env)] := by rfl) : PE X (.Call (.Attribute o "get" apos) [e, f] [] cpos) (tDGet2 td ty tx) := pe_dget2 hu ho he hf ⟨h1, h2, h3, h4⟩
theorem pe_get1 {td ty : TE} (hu : X.A.units + 1 < cLine) (ho : PE X o td) (he : PE X e ty) (h1 : attributeBase o "get" X.env (eval o X.env) = eval o X.env := by rfl)
    (h2 : ((backTo cpos (starEach [e] X.env)).all (fun x => !x.1) && (backToKw cpos (keywordEach [] X.env)).all (fun x => x.1.isSome) && decide (([e] : List Expr).length + ([] : List Keyword).length + (if ([] : List Keyword).isEmpty then 0 else 1) < 30)) = true := by rfl)
    (h3 : (apos.endLine == cpos.line) = true := by rfl) (h4 : backTo cpos (starEach [e] X.env) = [(false, eval e X.env)] := by rfl) : PE X (.Call (.Attribute o "get" apos) [e] [] cpos) (tDGet1 td ty) := pe_dget1 hu ho he ⟨h1, h2, h3, h4⟩
/-- a text from behind -/
def revS (x : Str) : Str := tx (sg x).reverse
def tRevS (te : TE) : TE := fun σ H Q => te σ H fun v H1 => ∃ z, v = .str z ∧ z.length ≤ sizeLine ∧ Q (.str (revS z)) H1
theorem sliced_rev (z : Str) (st : Option (Int × Tok)) (h : st.map (·.1) = some (-1)) : (⟨((PySem.slicePicked z none none st).filterMap (z.cps[·]?)).toArray⟩ : Str) = revS z := by
  have pk : PySem.slicePicked z none none st = (List.range z.length).map fun k => z.length - 1 - k := by
    unfold PySem.slicePicked
    rw [h]
    exact picked_rev _
  unfold revS tx sg
  congr 2
  rw [pk, filterMap_get, List.map_map]
  · refine List.ext_getElem (by simp [Str.length]) fun i h1 h2 => ?_
    have hi : i < z.cps.size := by simpa using h2
    have hj : z.length - 1 - i < z.cps.size := by
      show z.cps.size - 1 - i < _
      omega
    rw [List.getElem_map, List.getElem_range, List.getElem_reverse]
    show z.cps.getD (z.length - 1 - i) 0 = _
    rw [Array.getElem_toList]
    unfold Array.getD
    rw [dif_pos hj]
    rfl
  · rintro i hi
    obtain ⟨k, hk, rfl⟩ := List.mem_map.mp hi
    have := List.mem_range.mp hk
    show z.length - 1 - k < z.length
    omega
theorem pe_revS {kk : Nat} {q1 q2 q3 : Pos} (ho : PE X o to) : PE X (.Subscript o (.Slice none none (some (.UnaryOp .USub (.Constant (.int 1) kk q1) q2)) q3) pos) (tRevS to) := by
  constructor
  intro pins sh σ H Q I want
  apply Subscript_
  apply thn (ho.run pins sh σ H _ I want)
  rintro v sa ⟨y, Ha, Ia, ry, z, rfl, hz, qz⟩
  obtain ⟨tk, rfl⟩ := ry
  have pst : PO X (some (.UnaryOp .USub (.Constant (.int 1) kk q1) q2)) (tPart (tUn (rU fun j => .int (-j)) (tC (.int 1)))) := po_some (pe_un un_neg pe_int)
  apply wpAny_Slice
  apply thn (po_none.run pins sa σ Ha (fun part Hb => part = none ∧ Hb = Ha) Ia ⟨rfl, rfl⟩)
  rintro vl sb ⟨pl, Hb, Ib, isl, rfl, rfl⟩
  apply thn (po_none.run pins sb σ Hb (fun part Hc => part = none ∧ Hc = Hb) Ib ⟨rfl, rfl⟩)
  rintro vu sc ⟨pu, Hc, Ic, isu, rfl, rfl⟩
  apply thn (pst.run pins sc σ Hc (fun part Hd => part = some (-1) ∧ Hd = Hc) Ic ⟨1, rfl, -1, rfl, rfl, rfl⟩)
  rintro vs sd ⟨ps, Hd, Id, iss, rfl, rfl⟩
  have Ie : Inv X pins σ Hd ⟨sd.heap.push { cls := .type "slice", data := .fields #[vl, vu, vs] }, sd.gens, sd.drawn, sd.toks, sd.os⟩ := Id.kept (t' := sd.toks) fun b ob w => Heap.get?_push_of_some _ w
  obtain ⟨l1, rfl, e1⟩ := IsPart.raw isl
  obtain ⟨l2, rfl, e2⟩ := IsPart.raw isu
  obtain ⟨l3, rfl, e3⟩ := IsPart.raw iss
  obtain rfl : l1 = none := by cases l1 with
    | none => rfl
    | some _ => cases e1
  obtain rfl : l2 = none := by cases l2 with
    | none => rfl
    | some _ => cases e2
  show wpAny (model X.prog X.w) X.A (subscriptTail o (.Slice none none (some (.UnaryOp .USub (.Constant (.int 1) kk q1) q2)) q3) (.str z tk) (.ref sd.heap.objs.size)) (EP X pins σ Q) X.xe ⟨sd.heap.push { cls := .type "slice", data := .fields #[partValue none, partValue none, partValue l3] }, sd.gens, sd.drawn, sd.toks, sd.os⟩
  apply tail_any (ops := [.ref sd.heap.objs.size, .str z tk]) (typeIs_str _ _ _) PySem.F.slot_str_getitem.lookup ?_ (by with_unfolding_all rfl)
  apply wpAny_getItem_str_slice (l := none) (u := none) (st := l3) ⟨_, Heap.get?_push_size _ rfl, rfl, rfl⟩ (by rw [e3]; rfl)
  have hb : ((l3.map (·.1)).getD 1 == 1) = false := by rw [e3]; rfl
  unfold PySem.sliceMade
  rw [hb, Bool.false_and, if_neg Bool.false_ne_true, sliced_rev z l3 e3]
  exact ⟨by show (sg z).reverse.length ≤ _; rw [List.length_reverse]; exact hz, .str (revS z), Hd, Ie.tok _, ⟨_, rfl⟩, qz⟩
end
end My

/-! sorted of texts, any number of them: of a dict by its keys, of a list or tuple -/
namespace My
open PySem PySem.Spec PyProof.Rows L2 Evl
def leS (x y : Str) : Bool := decide (x.cps.toList ≤ y.cps.toList)
def sortS (xs : List Str) : List Str := xs.mergeSort leS
theorem le_dataS : PySem.W.dataLe false (fun b : Str => PyData.str b) = leS := PySem.W.dataLe_str fun b => b
section
variable {X : Cx} {K : PySem.W.Frag}
theorem each_strs : ∀ {us : List Value} {ks : List Str}, StrsAre us ks → PySem.W.EachIs (fun v b => ∃ t, v = Value.str b t) us ks
  | _, _, .nil => .nil
  | _, _, .cons x t h => .cons ⟨t, rfl⟩ (each_strs h)
theorem strs_each : ∀ {us : List Value} {ks : List Str}, PySem.W.EachIs (fun v b => ∃ t, v = Value.str b t) us ks → StrsAre us ks
  | _, _, .nil => .nil
  | _, _, .cons ⟨t, e⟩ h => by
    subst e
    exact .cons _ t (strs_each h)
def rSortDct (K : PySem.W.Frag) : List V → Hp → VK → Prop := fun xs H Q => ∃ (a : Addr) (kvs : List (Key × V)) (ks : List Str), xs = [.ref a] ∧ Rd H a (.dK kvs) ∧ kvs.map (·.1) = ks.map Sum.inr ∧ ks.length ≤ 100000 ∧
  ∀ p, H p = none → Q (.ref p) (upd H p (.lst ((sortS ks).map V.str)))
theorem cr_sortDct (hcalm : X.calm = true) (hu : X.A.units + 64 < cLine) : CallR X (.builtin "sorted") (rSortDct K) := by
  intro pins st σ H xs us Q I r q
  obtain ⟨a, kvs, ks, rfl, hd, hks, hmax, q⟩ := q
  obtain ⟨u, rfl, rx⟩ := vals1 r
  cases rx
  obtain ⟨z, lo, vs, rel, dd⟩ := dk_rd I.hok hd
  obtain ⟨ep, hat⟩ := dd.dictAt
  have keys : vs.map (·.1) = ks.map Sum.inr := rel.keys.symm.trans hks
  have hlen : vs.length = ks.length := by simpa using congrArg List.length keys
  have big : 100000 ≤ sizeLine := by decide
  refine Calls.call_function_entry PyProof.Rows.kind_sorted PyProof.Rows.plain_sorted PyProof.Rows.entry_sorted (PyProof.Rows.args_sorted1 _) ?_
  unfold Builtin.«sorted»
  refine wpAny_bind (m := checkCount "sorted" 1 1 _) (wpAny_pure ?_)
  refine wpAny_bind (PySem.W.kdu_collect (A := X.A.in1) (PySem.W.kdl_dict (knd := mixKind X.prog X.w) (kvs := vs) (ep := ep) lo) (I.ok.hd hcalm) hat (by omega) fun h2 tk acc kept hacc => ?_)
  have alen : acc.toList.length = ks.length := by rw [Array.length_toList, hacc.1, hlen]
  have hS : StrsAre acc.toList ks := L2.strs_at alen fun j v e => by
    obtain ⟨k, x, e1, e2⟩ := hacc.2 j v (by rw [← Array.getElem?_toList]; exact e)
    have e3 : (vs.map (·.1))[j]? = some k := by rw [List.getElem?_map, e1]; rfl
    rw [keys, List.getElem?_map] at e3
    cases e4 : ks[j]? with
    | none => rw [e4] at e3; cases e3
    | some y =>
      rw [e4] at e3
      obtain rfl : Sum.inr y = k := Option.some.inj e3
      obtain ⟨t, ev⟩ := Value.isStrOf_shape (x := y) (v := v) e2
      exact ⟨y, t, rfl, ev⟩
  have I2 : Inv X pins σ H { st with heap := h2, toks := tk } := I.kept kept
  refine wpAny_bind (wpAny_newList ?_ (by rw [alen]; omega))
  have hobj : (h2.push (seqObj "list" acc.toList.toArray 0)).get? h2.objs.size = some (seqObj "list" acc.toList.toArray 0) := Heap.get?_push_size _ rfl
  show wpAny _ _ _ _ _ { st with heap := h2.push (seqObj "list" acc.toList.toArray 0), toks := tk }
  refine wpAny_bind (wpAny_holding (PySem.W.list_sort_data (A := X.A.in1) (R := fun v (b : Str) => ∃ t, v = Value.str b t) (enc := fun b : Str => PyData.str b) (bs := ks) hobj (each_strs hS) ((each_strs hS).mono fun v b ⟨t, e⟩ => ?_)
    (PySem.W.AllAlike.of fun _ _ => rfl) (PySem.W.Sortable.others fun _ => ⟨(fun z => nomatch z), (fun _ z => nomatch z)⟩) (by omega) (fun b _ => ?_) fun out olen eo => ?_))
  · subst e
    exact ⟨[], .str b t, by simp⟩
  · show X.A.units + 1 + 1 + 0 < cLine
    omega
  rw [le_dataS] at eo
  have hS2 := strs_each eo
  obtain ⟨e', he'⟩ := PyProof.Rows.sortedHeap_at (vs := acc.toList) (out := out.toArray) hobj
  have l2 : ((sortS ks).map V.str).length ≤ sizeLine := by
    unfold sortS
    rw [List.length_map, List.length_mergeSort]
    omega
  refine wpAny_pure ⟨_, rfl, .ref h2.objs.size, upd H h2.objs.size (.lst ((sortS ks).map V.str)), I2.laid (t' := tk) (fun b u e => ?_) (Nat.le_refl _)
    (show ObjOk X.prog X.w _ _ _ (.lst ((sortS ks).map V.str)) from ⟨l2, out, e', vals_of_strs hS2, he'⟩), rfl, q _ (I2.hok.fresh (Nat.le_refl _))⟩
  have hb : b < h2.objs.size := Heap.lt_size e
  rw [PyProof.Rows.sortedHeap_old (Nat.ne_of_lt hb) (by rw [size_push']; exact Nat.lt_succ_of_lt hb)]
  exact Heap.get?_push_of_some _ e
def rSortLst (K : PySem.W.Frag) : List V → Hp → VK → Prop := fun xs H Q => ∃ (a : Addr) (ks : List Str), xs = [.ref a] ∧ SqL K H a (ks.map V.str) ∧ ks.length ≤ 100000 ∧ ∀ p, H p = none → Q (.ref p) (upd H p (.lst ((sortS ks).map V.str)))
theorem cr_sortLst (hu : X.A.units + 64 < cLine) (hK : X.K = K := by rfl) : CallR X (.builtin "sorted") (rSortLst K) := by
  subst hK
  intro pins st σ H xs us Q I r q
  obtain ⟨a, ks, rfl, hs, hmax, q⟩ := q
  obtain ⟨its, rv, hl, _⟩ := I.list hs
  rw [Vals.ref1 r]
  have hS := rv.strs
  have big : 100000 ≤ sizeLine := by decide
  refine PySem.W.sorted_data (R := fun v (b : Str) => ∃ t, v = Value.str b t) (enc := fun b : Str => PyData.str b) (bs := ks) hl.isList (each_strs hS) ((each_strs hS).mono fun v b ⟨t, e⟩ => ?_)
    (PySem.W.AllAlike.of fun _ _ => rfl) (PySem.W.Sortable.others fun _ => ⟨(fun z => nomatch z), (fun _ z => nomatch z)⟩) (by omega) (fun b _ => ?_) fun out olen eo => ?_
  · subst e
    exact ⟨[], .str b t⟩
  · show X.A.units + 2 + 0 < cLine
    omega
  rw [le_dataS] at eo
  have hS2 := strs_each eo
  obtain ⟨ep, he'⟩ := PyProof.Rows.sortedAll_at st.heap its out.toArray
  have l2 : ((sortS ks).map V.str).length ≤ sizeLine := by
    unfold sortS
    rw [List.length_map, List.length_mergeSort]
    omega
  exact ⟨.ref _, upd H (st.heap.objs.size + 1) (.lst ((sortS ks).map V.str)), I.laid (t' := st.toks) (fun _ _ => PyProof.Rows.sortedAll_old) (Nat.le_succ _) ⟨l2, out, ep, vals_of_strs hS2, he'⟩, rfl, q _ (I.hok.fresh (Nat.le_succ _))⟩
end
/-! ### what sorted gives -/
theorem leS_total : PySem.W.TotalLe leS where
  trans := fun a b c h1 h2 => decide_eq_true (List.le_trans (of_decide_eq_true h1) (of_decide_eq_true h2))
  total := fun a b => (List.le_total a.cps.toList b.cps.toList).elim (fun h => .inl (decide_eq_true h)) fun h => .inr (decide_eq_true h)
theorem sortS_perm (xs : List Str) : (sortS xs).Perm xs := List.mergeSort_perm xs leS
theorem sortS_mem {xs : List Str} {x : Str} : x ∈ sortS xs ↔ x ∈ xs := (sortS_perm xs).mem_iff
theorem sortS_len (xs : List Str) : (sortS xs).length = xs.length := (sortS_perm xs).length_eq
theorem sortS_asc {xs : List Str} (h : xs.Nodup) : Asc (sortS xs) := by
  have h1 := PySem.W.sort_pairwise leS_total xs
  have h2 : (sortS xs).Nodup := (sortS_perm xs).symm.nodup h
  refine (h1.and h2).imp fun {a b} ⟨le, ne⟩ => ?_
  have le' : a.cps.toList ≤ b.cps.toList := of_decide_eq_true le
  by_cases hlt : sg a < sg b
  · exact hlt
  · exact absurd (sg_inj (List.le_antisymm le' (List.not_lt.mp hlt))) ne
theorem Asc.nodup {xs : List Str} (h : Asc xs) : xs.Nodup := h.imp fun {a b} hlt e => by
  subst e
  exact List.lt_irrefl _ hlt
theorem lt_trans' {a b c : Str} (h1 : lt a b) (h2 : lt b c) : lt a c := List.lt_trans h1 h2
theorem lt_asymm' {a b : Str} (h1 : lt a b) (h2 : lt b a) : False := List.lt_asymm h1 h2
/-- an ascending list is told by its members -/
theorem asc_ext : ∀ {xs ys : List Str}, Asc xs → Asc ys → (∀ z, z ∈ xs ↔ z ∈ ys) → xs = ys
  | [], [], _, _, _ => rfl
  | [], y :: ys, _, _, h => absurd ((h y).mpr (List.mem_cons_self ..)) (by simp)
  | x :: xs, [], _, _, h => absurd ((h x).mp (List.mem_cons_self ..)) (by simp)
  | x :: xs, y :: ys, hx, hy, h => by
    obtain ⟨hx1, hx2⟩ := List.pairwise_cons.mp hx
    obtain ⟨hy1, hy2⟩ := List.pairwise_cons.mp hy
    have e : x = y := by
      rcases List.mem_cons.mp ((h x).mp (List.mem_cons_self ..)) with e | h1
      · exact e
      · rcases List.mem_cons.mp ((h y).mpr (List.mem_cons_self ..)) with e | h2
        · exact e.symm
        · exact (lt_asymm' (hy1 x h1) (hx1 y h2)).elim
    subst e
    rw [asc_ext hx2 hy2 fun z => ⟨fun hz => ?_, fun hz => ?_⟩]
    · rcases List.mem_cons.mp ((h z).mp (List.mem_cons_of_mem _ hz)) with e | h1
      · subst e
        exact absurd (hx1 z hz) (List.lt_irrefl _)
      · exact h1
    · rcases List.mem_cons.mp ((h z).mpr (List.mem_cons_of_mem _ hz)) with e | h1
      · subst e
        exact absurd (hy1 z hz) (List.lt_irrefl _)
      · exact h1
theorem sortS_id {xs : List Str} (h : Asc xs) : sortS xs = xs := asc_ext (sortS_asc h.nodup) h fun _ => sortS_mem
end My

/-! webs: places, what is come to; dicts with text keys -/
namespace My
open PySem PySem.Spec PyProof.Rows L2 Evl
theorem nodup_one {α : Type} (a : α) : [a].Nodup := List.nodup_cons.mpr ⟨List.not_mem_nil, List.nodup_nil⟩
theorem nodup_len {α : Type} [DecidableEq α] : ∀ {ks l : List α}, ks.Nodup → (∀ x ∈ ks, x ∈ l) → ks.length ≤ l.length
  | [], _, _, _ => Nat.zero_le _
  | k :: ks, l, nd, h => by
    obtain ⟨h1, h2⟩ := List.nodup_cons.mp nd
    have hk : k ∈ l := h k (List.mem_cons_self ..)
    have ih := nodup_len (l := l.erase k) h2 fun x hx => by
      have hne : x ≠ k := fun e => h1 (e ▸ hx)
      exact (List.mem_erase_of_ne hne).mpr (h x (List.mem_cons_of_mem _ hx))
    have hl := List.length_erase_of_mem hk
    have hp : 0 < l.length := List.length_pos_of_mem hk
    rw [List.length_cons]
    omega
/-! ### what is come to, step by step -/
inductive Rch (sc : Str → List Str) (a : Str) : Str → Prop
  | refl : Rch sc a a
  | step {b c : Str} : Rch sc a b → c ∈ sc b → Rch sc a c
theorem Rch.trans {sc : Str → List Str} {a b c : Str} (h1 : Rch sc a b) (h2 : Rch sc b c) : Rch sc a c := by
  induction h2 with
  | refl => exact h1
  | step _ h ih => exact ih.step h
/-- a flood under way: found, waiting; op: what is being looked at -/
structure Srch (sc : Str → List Str) (s : Str) (ks wl : List Str) (op : Str → Prop) : Prop where
  mem : s ∈ ks
  nd : ks.Nodup
  rch : ∀ q ∈ ks, Rch sc s q
  sub : ∀ q ∈ wl, q ∈ ks
  cls : ∀ q ∈ ks, q ∈ wl ∨ op q ∨ ∀ r ∈ sc q, r ∈ ks
theorem Srch.start {sc : Str → List Str} {s : Str} : Srch sc s [s] [s] fun _ => False :=
  ⟨List.mem_singleton.mpr rfl, nodup_one s, fun q h => by rw [List.mem_singleton.mp h]; exact .refl, fun q h => h, fun q h => .inl h⟩
theorem Srch.done {sc : Str → List Str} {s : Str} {ks : List Str} (S : Srch sc s ks [] fun _ => False) (q : Str) : q ∈ ks ↔ Rch sc s q := by
  refine ⟨S.rch q, fun h => ?_⟩
  induction h with
  | refl => exact S.mem
  | step _ hc ih =>
    rcases S.cls _ ih with h | h | h
    · cases h
    · exact h.elim
    · exact h _ hc
theorem Srch.pop {sc : Str → List Str} {s p : Str} {ks wl : List Str} (S : Srch sc s ks (wl ++ [p]) fun _ => False) : Srch sc s ks wl fun q => q = p :=
  ⟨S.mem, S.nd, S.rch, fun q h => S.sub q (List.mem_append_left _ h), fun q h => by
    rcases S.cls q h with h | h | h
    · rcases List.mem_append.mp h with h | h
      · exact .inl h
      · exact .inr (.inl (List.mem_singleton.mp h))
    · exact h.elim
    · exact .inr (.inr h)⟩
theorem Srch.put {sc : Str → List Str} {s p r : Str} {ks wl : List Str} (S : Srch sc s ks wl fun q => q = p) (hp : p ∈ ks) (hr : r ∈ sc p) (hn : r ∉ ks) : Srch sc s (ks ++ [r]) (wl ++ [r]) fun q => q = p :=
  ⟨List.mem_append_left _ S.mem, List.nodup_append.mpr ⟨S.nd, nodup_one r, fun a ha b hb e => hn (by rw [← List.mem_singleton.mp hb, ← e]; exact ha)⟩, fun q h => by
    rcases List.mem_append.mp h with h | h
    · exact S.rch q h
    · rw [List.mem_singleton.mp h]
      exact (S.rch p hp).step hr, fun q h => by
    rcases List.mem_append.mp h with h | h
    · exact List.mem_append_left _ (S.sub q h)
    · exact List.mem_append_right _ h, fun q h => by
    rcases List.mem_append.mp h with h | h
    · rcases S.cls q h with h | h | h
      · exact .inl (List.mem_append_left _ h)
      · exact .inr (.inl h)
      · exact .inr (.inr fun z hz => List.mem_append_left _ (h z hz))
    · exact .inl (List.mem_append_right _ h)⟩
theorem Srch.shut {sc : Str → List Str} {s p : Str} {ks wl : List Str} (S : Srch sc s ks wl fun q => q = p) (h : ∀ r ∈ sc p, r ∈ ks) : Srch sc s ks wl fun _ => False :=
  ⟨S.mem, S.nd, S.rch, S.sub, fun q hq => by
    rcases S.cls q hq with h' | h' | h'
    · exact .inl h'
    · subst h'
      exact .inr (.inr h)
    · exact .inr (.inr h')⟩
/-! ### dicts with text keys -/
abbrev kS (k : Str) : Key := Sum.inr k
theorem inr_inj {a b : Str} : (kS a = kS b) ↔ a = b := ⟨fun h => Sum.inr.inj h, fun h => congrArg _ h⟩
theorem valV_keys {kvs : List (Key × V)} {ks : List Str} (h : kvs.map (·.1) = ks.map kS) (k : Str) : (valV kvs (kS k)).isSome = decide (k ∈ ks) := by
  rw [← valV_any]
  have e : (kvs.any fun kv => decide (kv.1 = kS k)) = ((kvs.map (·.1)).any fun z => decide (z = kS k)) := by rw [List.any_map]; rfl
  rw [e, h, List.any_map]
  have e2 : (ks.any ((fun z => decide (z = kS k)) ∘ kS)) = ks.any fun z => decide (z = k) := by
    congr 1
    funext z
    exact decide_eq_decide.mpr inr_inj
  rw [e2]
  by_cases hk : k ∈ ks
  · rw [decide_eq_true hk]
    exact List.any_eq_true.mpr ⟨k, hk, decide_eq_true rfl⟩
  · rw [decide_eq_false hk]
    refine Bool.eq_false_iff.mpr fun z => hk ?_
    obtain ⟨y, hy, e⟩ := List.any_eq_true.mp z
    rw [← of_decide_eq_true e]
    exact hy
theorem valV_none {kvs : List (Key × V)} {ks : List Str} (h : kvs.map (·.1) = ks.map kS) {k : Str} (hk : k ∉ ks) : valV kvs (kS k) = none := by
  have e := valV_keys h k
  rw [decide_eq_false hk] at e
  cases q : valV kvs (kS k) with
  | none => rfl
  | some v => rw [q] at e; cases e
theorem putK_keys {kvs : List (Key × V)} {ks : List Str} (h : kvs.map (·.1) = ks.map kS) (k : Str) (v : V) : (putK kvs (kS k) v).map (·.1) = (if k ∈ ks then ks else ks ++ [k]).map kS := by
  unfold putK
  rw [valV_any, valV_keys h]
  by_cases hk : k ∈ ks
  · rw [if_pos (decide_eq_true hk), if_pos hk, List.map_map, ← h]
    refine List.map_congr_left fun p _ => ?_
    show (if p.1 = kS k then (p.1, v) else p).1 = p.1
    split <;> rfl
  · rw [if_neg (by rw [decide_eq_false hk]; exact Bool.false_ne_true), if_neg hk, List.map_append, h, List.map_append]
    rfl
/-- a dict of truths -/
def trues (ks : List Str) : List (Key × V) := ks.map fun k => (kS k, V.bl true)
theorem trues_keys (ks : List Str) : (trues ks).map (·.1) = ks.map kS := by
  unfold trues
  rw [List.map_map]
  rfl
theorem trues_put {ks : List Str} {k : Str} (h : k ∉ ks) : putK (trues ks) (kS k) (V.bl true) = trues (ks ++ [k]) := by
  rw [putK_new _ (valV_none (trues_keys ks) h)]
  unfold trues
  rw [List.map_append]
  rfl
theorem trues_put_in {ks : List Str} {k : Str} (h : k ∈ ks) : putK (trues ks) (kS k) (V.bl true) = trues ks := by
  unfold putK
  rw [if_pos (by rw [valV_any, valV_keys (trues_keys ks)]; exact decide_eq_true h)]
  unfold trues
  rw [List.map_map]
  refine List.map_congr_left fun x _ => ?_
  show (if kS x = kS k then (kS x, V.bl true) else (kS x, V.bl true)) = _
  split <;> rfl
theorem trues_len (ks : List Str) : (trues ks).length = ks.length := List.length_map ..
/-- k added, if it is not there -/
def addS (ks : List Str) (k : Str) : List Str := if k ∈ ks then ks else ks ++ [k]
theorem addS_mem {ks : List Str} {k z : Str} : z ∈ addS ks k ↔ z ∈ ks ∨ z = k := by
  unfold addS
  split
  · rename_i h
    exact ⟨.inl, fun q => q.elim id fun e => e ▸ h⟩
  · rw [List.mem_append, List.mem_singleton]
theorem addS_nd {ks : List Str} (h : ks.Nodup) (k : Str) : (addS ks k).Nodup := by
  unfold addS
  split
  · exact h
  · rename_i hn
    exact List.nodup_append.mpr ⟨h, nodup_one k, fun a ha b hb e => hn (by rw [← List.mem_singleton.mp hb, ← e]; exact ha)⟩
theorem addS_len (ks : List Str) (k : Str) : (addS ks k).length ≤ ks.length + 1 := by
  unfold addS
  split
  · omega
  · rw [List.length_append]
    exact Nat.le_refl _
theorem trues_add (ks : List Str) (k : Str) : putK (trues ks) (kS k) (V.bl true) = trues (addS ks k) := by
  unfold addS
  split
  · rename_i h
    exact trues_put_in h
  · rename_i h
    exact trues_put h
/-- the texts of a list, each once, as they come -/
def ded (xs : List Str) : List Str := xs.foldl addS []
theorem ded_snoc (xs : List Str) (x : Str) : ded (xs ++ [x]) = addS (ded xs) x := by
  unfold ded
  rw [List.foldl_append]
  rfl
theorem foldl_addS_mem : ∀ {xs ks : List Str} {z : Str}, z ∈ xs.foldl addS ks ↔ z ∈ ks ∨ z ∈ xs
  | [], ks, z => by simp
  | x :: xs, ks, z => by
    rw [List.foldl_cons, foldl_addS_mem, addS_mem, List.mem_cons]
    exact or_assoc
theorem ded_mem {xs : List Str} {z : Str} : z ∈ ded xs ↔ z ∈ xs := by
  unfold ded
  rw [foldl_addS_mem]
  simp
theorem foldl_addS_nd : ∀ {xs ks : List Str}, ks.Nodup → (xs.foldl addS ks).Nodup
  | [], _, h => h
  | x :: xs, _, h => foldl_addS_nd (xs := xs) (addS_nd h x)
theorem ded_nd (xs : List Str) : (ded xs).Nodup := foldl_addS_nd List.nodup_nil
theorem ded_le (xs : List Str) : (ded xs).length ≤ xs.length := nodup_len (ded_nd xs) fun _ h => ded_mem.mp h
/-! ### places -/
def plcs (ws : List Str) : List Str := ws.flatMap fun x => [begS x, endS x]
theorem plcs_mem {ws : List Str} {p : Str} : p ∈ plcs ws ↔ ∃ x ∈ ws, p = begS x ∨ p = endS x := by
  unfold plcs
  rw [List.mem_flatMap]
  simp
theorem plcs_len (ws : List Str) : (plcs ws).length = 2 * ws.length := by
  unfold plcs
  induction ws with
  | nil => rfl
  | cons x ws ih =>
    rw [List.flatMap_cons, List.length_append, ih, List.length_cons]
    show 2 + 2 * ws.length = 2 * (ws.length + 1)
    omega
theorem plcs_app (a b : List Str) : plcs (a ++ b) = plcs a ++ plcs b := List.flatMap_append
theorem ded_plcs {ws : List Str} {i : Nat} {z : Str} (h : ws[i]? = some z) : ded (plcs (ws.take (i + 1))) = addS (addS (ded (plcs (ws.take i))) (begS z)) (endS z) := by
  have e : ws.take (i + 1) = ws.take i ++ [z] := by rw [List.take_add_one, h]; rfl
  have e2 : plcs (ws.take i ++ [z]) = (plcs (ws.take i) ++ [begS z]) ++ [endS z] := by
    rw [plcs_app, List.append_assoc]
    rfl
  rw [e, e2, ded_snoc, ded_snoc]
/-- the places, ascending -/
def places (ws : List Str) : List Str := sortS (ded (plcs ws))
theorem places_mem {ws : List Str} {p : Str} : p ∈ places ws ↔ p ∈ plcs ws := sortS_mem.trans ded_mem
theorem places_asc (ws : List Str) : Asc (places ws) := sortS_asc (ded_nd _)
theorem places_len (ws : List Str) : (places ws).length ≤ 2 * ws.length := by
  unfold places
  rw [sortS_len, ← plcs_len]
  exact ded_le _
/-- the windows that begin at a place, where they lead -/
def outs (ws : List Str) (p : Str) : List Str := ws.filter fun x => decide (begS x = p)
def nxts (ws : List Str) (p : Str) : List Str := (outs ws p).map endS
theorem outs_mem {ws : List Str} {p x : Str} : x ∈ outs ws p ↔ x ∈ ws ∧ begS x = p := by
  unfold outs
  rw [List.mem_filter, decide_eq_true_eq]
theorem nxts_mem {ws : List Str} {p q : Str} : q ∈ nxts ws p ↔ ∃ x ∈ ws, begS x = p ∧ endS x = q := by
  unfold nxts
  rw [List.mem_map]
  constructor
  · rintro ⟨x, hx, e⟩
    obtain ⟨h1, h2⟩ := outs_mem.mp hx
    exact ⟨x, h1, h2, e⟩
  · rintro ⟨x, h1, h2, e⟩
    exact ⟨x, outs_mem.mpr ⟨h1, h2⟩, e⟩
theorem beg_mem {ws : List Str} {x : Str} (h : x ∈ ws) : begS x ∈ plcs ws := plcs_mem.mpr ⟨x, h, .inl rfl⟩
theorem end_mem {ws : List Str} {x : Str} (h : x ∈ ws) : endS x ∈ plcs ws := plcs_mem.mpr ⟨x, h, .inr rfl⟩
theorem rch_plc {ws : List Str} {a b : Str} (ha : a ∈ plcs ws) (h : Rch (nxts ws) a b) : b ∈ plcs ws := by
  cases h with
  | refl => exact ha
  | step _ h =>
    obtain ⟨x, hx, _, rfl⟩ := nxts_mem.mp h
    exact end_mem hx
/-- all places come to one another -/
def Hang (ws : List Str) : Prop := ∀ p ∈ plcs ws, ∀ q ∈ plcs ws, Rch (nxts ws) p q
/-- .. and there is a window -/
def Sc (ws : List Str) : Prop := ws ≠ [] ∧ Hang ws
noncomputable def scB (ws : List Str) : Bool := @decide (Sc ws) (Classical.propDecidable _)
theorem scB_iff {ws : List Str} : scB ws = true ↔ Sc ws := by
  unfold scB
  exact @decide_eq_true_iff _ (Classical.propDecidable _)
theorem scB_false {ws : List Str} (h : ¬ Sc ws) : scB ws = false := Bool.eq_false_iff.mpr fun e => h (scB_iff.mp e)
theorem word_tx {l : List Nat} (h : ∀ c ∈ l, 97 ≤ c ∧ c ≤ 122) : Word (tx l) := h
theorem word_beg {x : Str} (h : Word x) : Word (begS x) := fun c hc => h c (List.dropLast_subset _ hc)
theorem word_end {x : Str} (h : Word x) : Word (endS x) := fun c hc => h c (List.drop_subset _ _ hc)
theorem len_beg (x : Str) : (begS x).length = x.length - 1 := by
  show ((sg x).dropLast).length = _
  rw [List.length_dropLast]
  rfl
theorem len_end (x : Str) : (endS x).length = x.length - 1 := by
  show ((sg x).drop 1).length = _
  rw [List.length_drop]
  rfl
theorem plcs_word {ws : List Str} {n : Nat} (h : ∀ x ∈ ws, Word x ∧ x.length = n) {p : Str} (hp : p ∈ plcs ws) : Word p ∧ p.length = n - 1 := by
  obtain ⟨x, hx, e⟩ := plcs_mem.mp hp
  obtain ⟨h1, h2⟩ := h x hx
  rcases e with rfl | rfl
  · exact ⟨word_beg h1, by rw [len_beg, h2]⟩
  · exact ⟨word_end h1, by rw [len_end, h2]⟩
/-! ### data that == takes -/
theorem layStrs : ∀ {ws : List Str}, (∀ x ∈ ws, Word x) → PyData.canLayAll0 (ws.map PyData.str) = true
  | [], _ => rfl
  | x :: ws, h => by
    show (PyData.strOk x && PyData.canLayAll0 (ws.map PyData.str)) = true
    rw [layStrs fun y hy => h y (List.mem_cons_of_mem _ hy), Bool.and_true]
    show x.cps.all (· < 0x110000) = true
    rw [← Array.all_toList]
    refine List.all_eq_true.mpr fun c hc => decide_eq_true ?_
    have := h x (List.mem_cons_self ..) c hc
    omega
theorem depthStrs : ∀ (ws : List Str), PyData.depthAll (ws.map PyData.str) = 0
  | [] => rfl
  | x :: ws => by
    show max 0 (PyData.depthAll (ws.map PyData.str)) = 0
    rw [depthStrs ws]
    rfl
theorem shapedL {ws : List Str} (h : ∀ x ∈ ws, Word x) : SeqAt.shaped (strsL ws) = true := by
  show (PyData.canLayAll0 (ws.map PyData.str) && decide (PyData.depthAll (ws.map PyData.str) + 1 ≤ 64)) = true
  rw [layStrs h, depthStrs]
  rfl
theorem shapedT {ws : List Str} (h : ∀ x ∈ ws, Word x) : SeqAt.shaped (strsT ws) = true := by
  show (PyData.canLayAll0 (ws.map PyData.str) && decide (PyData.depthAll (ws.map PyData.str) + 1 ≤ 64)) = true
  rw [layStrs h, depthStrs]
  rfl
theorem eqvStrs : ∀ (a b : List Str), PyData.eqvAll (a.map PyData.str) (b.map PyData.str) = decide (a = b)
  | [], [] => rfl
  | x :: a, [] => by rw [decide_eq_false (by simp)]; rfl
  | [], y :: b => by rw [decide_eq_false (by simp)]; rfl
  | x :: a, y :: b => by
    show (x == y && PyData.eqvAll (a.map PyData.str) (b.map PyData.str)) = _
    rw [eqvStrs a b]
    by_cases h1 : x = y
    · subst h1
      by_cases h2 : a = b
      · subst h2
        simp
      · rw [decide_eq_false h2, decide_eq_false (fun e => h2 (List.cons.inj e).2), Bool.and_false]
    · rw [decide_eq_false (fun e => h1 (List.cons.inj e).1), beq_eq_false_iff_ne.mpr h1, Bool.false_and]
theorem take_len {α : Type} (xs : List α) : xs.take xs.length = xs := List.take_length
end My

/-! dicts of lists, each list its own; a flood through one -/
namespace My
open PySem PySem.Spec PyProof.Rows L2 Evl
def wkv (rs : Str → Addr) (ks : List Str) : List (Key × V) := ks.map fun k => (kS k, V.ref (rs k))
theorem wkv_keys (rs : Str → Addr) (ks : List Str) : (wkv rs ks).map (·.1) = ks.map kS := by
  unfold wkv
  rw [List.map_map]
  rfl
theorem wkv_len (rs : Str → Addr) (ks : List Str) : (wkv rs ks).length = ks.length := List.length_map ..
theorem wkv_val {rs : Str → Addr} {k : Str} : ∀ {ks : List Str}, k ∈ ks → valV (wkv rs ks) (kS k) = some (.ref (rs k))
  | z :: ks, h => by
    by_cases e : z = k
    · subst e
      exact valV_pos rfl
    · show valV ((kS z, V.ref (rs z)) :: wkv rs ks) (kS k) = _
      rw [valV_neg fun q => e (inr_inj.mp q)]
      exact wkv_val ((List.mem_cons.mp h).resolve_left fun q => e q.symm)
theorem wkv_none {rs : Str → Addr} {k : Str} {ks : List Str} (h : k ∉ ks) : valV (wkv rs ks) (kS k) = none := valV_none (wkv_keys rs ks) h
theorem wkv_in {rs : Str → Addr} {k : Str} {ks : List Str} : (valV (wkv rs ks) (kS k)).isSome = decide (k ∈ ks) := valV_keys (wkv_keys rs ks) k
/-- such a dict, under way -/
structure Wb (Hb H : Hp) (d : Addr) (ks : List Str) (f : Str → List Str) (rs : Str → Addr) : Prop where
  e : Ex Hb H
  nd : Hb d = none
  nk : ks.Nodup
  hd : H d = some (.dK (wkv rs ks))
  row : ∀ k ∈ ks, Hb (rs k) = none ∧ H (rs k) = some (.lst ((f k).map V.str))
  inj : ∀ k ∈ ks, ∀ l ∈ ks, rs k = rs l → k = l
theorem Wb.start {Hb : Hp} {d : Addr} {f : Str → List Str} {rs : Str → Addr} (h : Hb d = none) : Wb Hb (upd Hb d (.dK [])) d [] f rs :=
  ⟨Ex.new h, h, List.nodup_nil, upd_same, fun _ z => (List.not_mem_nil z).elim, fun _ z => (List.not_mem_nil z).elim⟩
theorem Wb.put {Hb H : Hp} {d p : Addr} {ks : List Str} {f : Str → List Str} {rs : Str → Addr} {k : Str} (w : Wb Hb H d ks f rs) (hk : k ∉ ks) (hp : H p = none) (hf : f k = []) :
    Wb Hb (upd (upd H p (.lst [])) d (.dK (putK (wkv rs ks) (kS k) (.ref p)))) d (ks ++ [k]) f (fun z => if z = k then p else rs z) := by
  have hdp : d ≠ p := ne_of_none w.hd hp
  have same : ∀ z ∈ ks, (if z = k then p else rs z) = rs z := fun z hz => if_neg fun (q : z = k) => hk (by rw [← q]; exact hz)
  have hpd : p ≠ d := fun q => hdp q.symm
  refine ⟨Ex.mut (Ex.mut w.e (fresh_back w.e hp)) w.nd, w.nd, List.nodup_append.mpr ⟨w.nk, nodup_one k, fun a ha b hb (q : a = b) => hk (by rw [← List.mem_singleton.mp hb, ← q]; exact ha)⟩, ?_, fun z hz => ?_, fun y hy z hz q => ?_⟩
  · rw [upd_same, putK_new _ (wkv_none hk)]
    unfold wkv
    rw [List.map_append]
    congr 2
    congr 1
    · refine List.map_congr_left fun z hz => ?_
      show (kS z, V.ref (rs z)) = (kS z, V.ref (if z = k then p else rs z))
      rw [same z hz]
    · show [(kS k, V.ref p)] = [(kS k, V.ref (if k = k then p else rs k))]
      rw [if_pos rfl]
  · rcases List.mem_append.mp hz with hz | hz
    · rw [same z hz]
      obtain ⟨h1, h2⟩ := w.row z hz
      refine ⟨h1, ?_⟩
      rw [upd_ne (ne_of h2 w.hd fun q => nomatch q), upd_ne (ne_of_none h2 hp)]
      exact h2
    · obtain rfl := List.mem_singleton.mp hz
      rw [if_pos rfl]
      refine ⟨fresh_back w.e hp, ?_⟩
      rw [upd_ne hpd, upd_same, hf]
      rfl
  · rcases List.mem_append.mp hy with hy | hy <;> rcases List.mem_append.mp hz with hz | hz
    · rw [same y hy, same z hz] at q
      exact w.inj y hy z hz q
    · have ez := List.mem_singleton.mp hz
      rw [same y hy, if_pos ez] at q
      exact absurd q (ne_of_none (w.row y hy).2 hp)
    · have ey := List.mem_singleton.mp hy
      rw [same z hz, if_pos ey] at q
      exact absurd q.symm (ne_of_none (w.row z hz).2 hp)
    · rw [List.mem_singleton.mp hy, List.mem_singleton.mp hz]
theorem Wb.app {Hb H : Hp} {d : Addr} {ks : List Str} {f : Str → List Str} {rs : Str → Addr} {k x : Str} (w : Wb Hb H d ks f rs) (hk : k ∈ ks) :
    Wb Hb (upd H (rs k) (.lst ((f k).map V.str ++ [.str x]))) d ks (fun z => if z = k then f k ++ [x] else f z) rs := by
  obtain ⟨h1, h2⟩ := w.row k hk
  refine ⟨Ex.mut w.e h1, w.nd, w.nk, ?_, fun z hz => ⟨(w.row z hz).1, ?_⟩, w.inj⟩
  · rw [upd_ne (ne_of w.hd h2 fun q => nomatch q)]
    exact w.hd
  · by_cases hzk : z = k
    · subst hzk
      rw [upd_same, if_pos rfl, List.map_append]
      rfl
    · rw [upd_ne fun q => hzk (w.inj z hz k hk q), if_neg hzk]
      exact (w.row z hz).2
theorem Wb.as {Hb H : Hp} {d : Addr} {ks : List Str} {f g : Str → List Str} {rs : Str → Addr} (w : Wb Hb H d ks f rs) (h : ∀ k ∈ ks, f k = g k) : Wb Hb H d ks g rs :=
  ⟨w.e, w.nd, w.nk, w.hd, fun k hk => by rw [← h k hk]; exact w.row k hk, w.inj⟩
theorem Wb.new {Hb H : Hp} {d p : Addr} {ks : List Str} {f : Str → List Str} {rs : Str → Addr} {o : HO} (w : Wb Hb H d ks f rs) (hp : H p = none) : Wb Hb (upd H p o) d ks f rs :=
  ⟨w.e.trans (Ex.new hp), w.nd, w.nk, Ex.new hp _ _ w.hd, fun k hk => ⟨(w.row k hk).1, Ex.new hp _ _ (w.row k hk).2⟩, w.inj⟩
theorem Wb.ex {Hb H H' : Hp} {d : Addr} {ks : List Str} {f : Str → List Str} {rs : Str → Addr} (w : Wb Hb H d ks f rs) (e : Ex H H') : Wb Hb H' d ks f rs :=
  ⟨w.e.trans e, w.nd, w.nk, e _ _ w.hd, fun k hk => ⟨(w.row k hk).1, e _ _ (w.row k hk).2⟩, w.inj⟩
theorem Ex.upd2 {H H' : Hp} {p : Addr} {o : HO} (e : Ex H H') : Ex (upd H p o) (upd H' p o) := fun a u h => by
  by_cases q : a = p
  · subst q
    rw [upd_same] at h ⊢
    exact h
  · rw [upd_ne q] at h ⊢
    exact e a u h
/-- a new thing in the base too .. -/
theorem Wb.up {Hb H : Hp} {d p : Addr} {ks : List Str} {f : Str → List Str} {rs : Str → Addr} {o : HO} (w : Wb Hb H d ks f rs) (hp : H p = none) : Wb (upd Hb p o) (upd H p o) d ks f rs :=
  ⟨My.Ex.upd2 w.e, by rw [upd_ne (ne_of_none w.hd hp)]; exact w.nd, w.nk, Ex.new hp _ _ w.hd, fun k hk => ⟨by rw [upd_ne (ne_of_none (w.row k hk).2 hp)]; exact (w.row k hk).1, Ex.new hp _ _ (w.row k hk).2⟩, w.inj⟩
/-- .. and no more -/
theorem Wb.down {Hb H : Hp} {d p : Addr} {ks : List Str} {f : Str → List Str} {rs : Str → Addr} {o : HO} (w : Wb (upd Hb p o) H d ks f rs) (hp : Hb p = none) : Wb Hb H d ks f rs :=
  ⟨(Ex.new hp).trans w.e, fresh_back (Ex.new hp) w.nd, w.nk, w.hd, fun k hk => ⟨fresh_back (Ex.new hp) (w.row k hk).1, (w.row k hk).2⟩, w.inj⟩
/-- .. and done -/
def Wd (H : Hp) (d : Addr) (ks : List Str) (f : Str → List Str) : Prop := ∃ rs : Str → Addr, H d = some (.dK (wkv rs ks)) ∧ ∀ k ∈ ks, H (rs k) = some (.lst ((f k).map V.str))
theorem Wb.wd {Hb H : Hp} {d : Addr} {ks : List Str} {f : Str → List Str} {rs : Str → Addr} (w : Wb Hb H d ks f rs) : Wd H d ks f := ⟨rs, w.hd, fun k hk => (w.row k hk).2⟩
theorem Wd.ex {H H' : Hp} {d : Addr} {ks : List Str} {f : Str → List Str} (e : Ex H H') (w : Wd H d ks f) : Wd H' d ks f := by
  obtain ⟨rs, h1, h2⟩ := w
  exact ⟨rs, e _ _ h1, fun k hk => e _ _ (h2 k hk)⟩
theorem Wd.get {H : Hp} {d : Addr} {ks : List Str} {f : Str → List Str} (w : Wd H d ks f) {k : Str} (hk : k ∈ ks) : ∃ r, (∀ H', Ex H H' → DGet H' d (.str k) (some (.ref r))) ∧ H r = some (.lst ((f k).map V.str)) := by
  obtain ⟨rs, h1, h2⟩ := w
  refine ⟨rs k, fun H' e => ?_, h2 k hk⟩
  rw [← wkv_val (rs := rs) hk]
  exact DGet.k (k := kS k) (e _ _ h1)
theorem trues_in {ks : List Str} {k : Str} : (valV (trues ks) (kS k)).isSome = decide (k ∈ ks) := valV_keys (trues_keys ks) k
theorem snoc_cases {α : Type} (l : List α) : l = [] ∨ ∃ L b, l = L ++ [b] := by
  rcases List.eq_nil_or_concat l with h | ⟨L, b, h⟩
  · exact .inl h
  · exact .inr ⟨L, b, by rw [h, List.concat_eq_append]⟩
/-- what stands by a key -/
def grp (key g : Str → Str) (ws : List Str) (p : Str) : List Str := (ws.filter fun x => decide (key x = p)).map g
theorem grp_none {key g : Str → Str} {ws : List Str} {p : Str} (h : ∀ x ∈ ws, key x ≠ p) : grp key g ws p = [] := by
  unfold grp
  rw [List.filter_eq_nil_iff.mpr fun x hx q => h x hx (of_decide_eq_true q)]
  rfl
theorem grp_snoc {key g : Str → Str} {ws : List Str} {z p : Str} : grp key g (ws ++ [z]) p = if p = key z then grp key g ws (key z) ++ [g z] else grp key g ws p := by
  unfold grp
  rw [List.filter_append, List.map_append]
  by_cases h : p = key z
  · subst h
    rw [if_pos rfl, List.filter_cons, if_pos (decide_eq_true rfl)]
    rfl
  · rw [if_neg h, List.filter_cons, if_neg (fun q => h (of_decide_eq_true q).symm)]
    exact List.append_nil _
theorem take_snoc {α : Type} {ws : List α} {i : Nat} {z : α} (h : ws[i]? = some z) : ws.take (i + 1) = ws.take i ++ [z] := by
  rw [List.take_add_one, h]
  rfl
theorem last_at {α β : Type} {f : α → β} {l : List α} {x : α} : ((l ++ [x]).map f)[((l ++ [x]).map f).length - 1]? = some (f x) := by
  rw [List.length_map, List.length_append, List.map_append]
  have e : l.length + [x].length - 1 = (l.map f).length := by rw [List.length_map]; rfl
  rw [e, List.getElem?_append_right (Nat.le_refl _), Nat.sub_self]
  rfl
theorem drop_last {α β : Type} {f : α → β} {l : List α} {x : α} : ((l ++ [x]).map f).dropLast = l.map f := by
  rw [List.map_append]
  exact List.dropLast_concat
/-- x != [] -/
theorem ne_nilS {l : List Str} {x : Str} : (!PyData.eqv (strsL (l ++ [x])) (.list [])) = true := by
  show (!PyData.eqvAll ((l ++ [x]).map .str) (([] : List Str).map .str)) = true
  rw [eqvStrs, decide_eq_false (by simp)]
  rfl
theorem grp_len (key g : Str → Str) (ws : List Str) (p : Str) : (grp key g ws p).length ≤ ws.length := by
  unfold grp
  rw [List.length_map]
  exact List.length_filter_le ..
/-! ### what is come to, as a list -/
noncomputable def rchB (ws : List Str) (p q : Str) : Bool := @decide (Rch (nxts ws) p q) (Classical.propDecidable _)
theorem rchB_iff {ws : List Str} {p q : Str} : rchB ws p q = true ↔ Rch (nxts ws) p q := by
  unfold rchB
  exact @decide_eq_true_iff _ (Classical.propDecidable _)
noncomputable def rchL (ws : List Str) (p : Str) : List Str := (places ws).filter (rchB ws p)
theorem rchL_mem {ws : List Str} {p q : Str} (hp : p ∈ plcs ws) : q ∈ rchL ws p ↔ Rch (nxts ws) p q := by
  unfold rchL
  rw [List.mem_filter, places_mem, rchB_iff]
  exact ⟨fun h => h.2, fun h => ⟨rch_plc hp h, h⟩⟩
theorem rchL_asc (ws : List Str) (p : Str) : Asc (rchL ws p) := List.Pairwise.filter _ (places_asc ws)
theorem rchL_ks {ws ks : List Str} {p : Str} (hp : p ∈ plcs ws) (nd : ks.Nodup) (h : ∀ q, q ∈ ks ↔ Rch (nxts ws) p q) : sortS ks = rchL ws p :=
  asc_ext (sortS_asc nd) (rchL_asc ws p) fun q => by rw [sortS_mem, h q, rchL_mem hp]
/-- not all is come to -/
noncomputable def shy (ws : List Str) (p : Str) : Bool := decide ((rchL ws p).length < (places ws).length)
theorem filter_all {α : Type} {f : α → Bool} : ∀ {l : List α}, ¬ (l.filter f).length < l.length → ∀ x ∈ l, f x = true
  | [], _, _, h => (List.not_mem_nil h).elim
  | y :: l, hn, x, hx => by
    have hle := List.length_filter_le f l
    by_cases hy : f y = true
    · rw [List.filter_cons, if_pos hy, List.length_cons, List.length_cons] at hn
      rcases List.mem_cons.mp hx with rfl | hx
      · exact hy
      · exact filter_all (by omega) x hx
    · rw [List.filter_cons, if_neg hy, List.length_cons] at hn
      omega
theorem shy_no {ws : List Str} {p : Str} (h : shy ws p = false) : ∀ q ∈ plcs ws, Rch (nxts ws) p q := fun q hq => by
  have z := filter_all (of_decide_eq_false h) q (places_mem.mpr hq)
  exact rchB_iff.mp z
theorem shy_of {ws : List Str} {p : Str} (h : ∀ q ∈ plcs ws, Rch (nxts ws) p q) : shy ws p = false := by
  unfold shy rchL
  rw [List.filter_eq_self.mpr fun q hq => rchB_iff.mpr (h q (places_mem.mp hq))]
  exact decide_eq_false (Nat.lt_irrefl _)
/-- the first place from which not all is come to: what is -/
noncomputable def closed (ws : List Str) : Option (List Str) := ((places ws).find? (shy ws)).map (rchL ws)
noncomputable def closedD (ws : List Str) : PyData := match closed ws with
  | none => .none
  | some l => strsT l
theorem closed_none {ws : List Str} : closed ws = none ↔ Hang ws := by
  unfold closed
  rw [Option.map_eq_none_iff, List.find?_eq_none]
  constructor
  · intro h p hp q hq
    exact shy_no (Bool.eq_false_iff.mpr (h p (places_mem.mpr hp))) q hq
  · intro h p hp
    exact Bool.eq_false_iff.mp (shy_of (h p (places_mem.mp hp)))
theorem find_at {α : Type} {f : α → Bool} : ∀ {l : List α} {i : Nat} {p : α}, (∀ x ∈ l.take i, f x = false) → l[i]? = some p → f p = true → l.find? f = some p
  | [], _, _, _, h, _ => by cases h
  | y :: l, 0, p, _, h, hp => by
    obtain rfl := Option.some.inj h
    rw [List.find?_cons, hp]
  | y :: l, i + 1, p, hn, h, hp => by
    rw [List.find?_cons, hn y (List.mem_cons_self ..)]
    exact find_at (fun x hx => hn x (List.mem_cons_of_mem _ hx)) h hp
theorem closedD_some {ws : List Str} {i : Nat} {p : Str} (hn : ∀ x ∈ (places ws).take i, shy ws x = false) (hi : (places ws)[i]? = some p) (hp : shy ws p = true) : closedD ws = strsT (rchL ws p) := by
  unfold closedD closed
  rw [find_at hn hi hp]
  rfl
theorem closedD_none {ws : List Str} (h : ∀ x ∈ places ws, shy ws x = false) : closedD ws = .none := by
  have : closed ws = none := by
    unfold closed
    rw [List.find?_eq_none.mpr fun x hx => Bool.eq_false_iff.mp (h x hx)]
    rfl
  unfold closedD
  rw [this]
theorem closedD_hang {ws : List Str} (h : Hang ws) : closedD ws = .none := by
  unfold closedD
  rw [closed_none.mpr h]
theorem closedD_not {ws : List Str} (h : ¬ Hang ws) : ∃ l, closedD ws = strsT l := by
  unfold closedD
  cases e : closed ws with
  | none => exact absurd (closed_none.mp e) h
  | some l => exact ⟨l, rfl⟩
end My

/-! comprehensions over texts; windows left out -/
namespace My
open PySem PySem.Spec PyProof.Rows L2 Evl
/-- promises a new list of texts -/
def NewL (ws : List Str) (H : Hp) (Q : VK) : Prop := ∀ a H', Ex H H' → H a = none → H' a = some (.lst (ws.map V.str)) → Q (.ref a) H'
def atS (ws : List Str) (i : Nat) : Str := ws.getD i (tx [])
theorem atS_of {ws : List Str} {i : Nat} {z : Str} (h : ws[i]? = some z) : atS ws i = z := by
  unfold atS
  rw [List.getD_eq_getElem?_getD, h]
  rfl
theorem range_atS (ws : List Str) : (List.range ws.length).map (atS ws) = ws := by
  apply List.ext_getElem
  · simp
  · intro i h1 h2
    rw [List.getElem_map, List.getElem_range]
    exact atS_of (List.getElem?_eq_getElem h2)
theorem givenS (ws : List Str) (p : Str → Bool) (F : Str → PyData) : givenD ws.length (fun i => p (atS ws i)) (fun i => F (atS ws i)) = (ws.filter p).map F := by
  unfold givenD
  have e : (List.range ws.length).filter (fun i => p (atS ws i)) = (List.range ws.length).filter (p ∘ atS ws) := rfl
  have e2 : (fun i => F (atS ws i)) = F ∘ atS ws := rfl
  rw [e, e2, ← List.map_map, ← List.filter_map, range_atS]
section
variable {K : PySem.W.Frag} {H1 : Hp} {g : TG} {tt : TT} {te : TE} {vs : List Nat} {σ : L2.St} {D : Addr} {Qd : Hp → Prop}
abbrev LcsTurn (K : PySem.W.Frag) (H1 : Hp) (ws : List Str) (g : TG) (tt : TT) (te : TE) (vs : List Nat) (σ : L2.St) (p : Str → Bool) (F : Str → PyData) : Prop :=
  ∀ (z : Str) (H2 : Hp) (Y : VK) (Z : Hp → Prop), z ∈ ws → Ex H1 H2 → (p z = true → ∀ y H3, Ex H2 H3 → Dp K H3 y (F z) → Y y H3) → (p z = false → ∀ H3, Ex H2 H3 → Z H3) →
    g (.str z) (wipe σ vs) H2 fun σ2 H3 => wipe σ2 vs = wipe σ vs ∧ tt σ2 H3 fun b H4 => if b = true then te σ2 H4 Y else Z H4
abbrev LcsEnd (K : PySem.W.Frag) (H1 : Hp) (ws : List Str) (p : Str → Bool) (F : Str → PyData) (D : Addr) (Qd : Hp → Prop) : Prop :=
  ∀ H' acc, Ex H1 H' → H' D = some (.lst acc) → DpAll K H' acc ((ws.filter p).map F) → Qd H'
theorem lcs_turn {ws : List Str} {p : Str → Bool} {F : Str → PyData} (hs : LcsTurn K H1 ws g tt te vs σ p F) : LcTurn K H1 (ws.map V.str).length (fun i x _ => (ws.map V.str)[i]? = some x) g tt te vs σ (fun i => p (atS ws i)) (fun i => F (atS ws i)) := by
  intro i x H2 Y Z hi e it hy hn
  obtain ⟨z, hz, rfl⟩ := str_at it
  refine hs z H2 Y Z (List.mem_of_getElem? hz) e (fun h => ?_) (fun h => ?_)
  · rw [← atS_of hz] at h ⊢
    exact hy h
  · rw [← atS_of hz] at h
    exact hn h
theorem lcs_end {ws : List Str} {p : Str → Bool} {F : Str → PyData} (hd : LcsEnd K H1 ws p F D Qd) : LcEnd K H1 (ws.map V.str).length (fun i => p (atS ws i)) (fun i => F (atS ws i)) D Qd := fun H' acc e hp ha => by
  rw [List.length_map, givenS] at ha
  exact hd H' acc e hp ha
theorem lcs_tp {a : Addr} {ws : List Str} (h : SqT K H1 a (ws.map V.str)) (p : Str → Bool) (F : Str → PyData) (np : H1 D = none) (hn : ws.length ≤ 1000000) (nl : ∀ z ∈ ws, noList (F z) = true) (hs : LcsTurn K H1 ws g tt te vs σ p F) (hd : LcsEnd K H1 ws p F D Qd) : LcGo (Itt K a) H1 g tt te vs σ D Qd :=
  lc_tp h _ _ np (by rw [List.length_map]; exact hn) (fun i hi => by
    rw [List.length_map] at hi
    rw [atS_of (List.getElem?_eq_getElem hi)]
    exact nl _ (List.getElem_mem hi)) (lcs_turn hs) (lcs_end hd)
theorem lcs_lst {a : Addr} {ws : List Str} (h : SqL K H1 a (ws.map V.str)) (p : Str → Bool) (F : Str → PyData) (np : H1 D = none) (hn : ws.length ≤ 1000000) (nl : ∀ z ∈ ws, noList (F z) = true) (hs : LcsTurn K H1 ws g tt te vs σ p F) (hd : LcsEnd K H1 ws p F D Qd) : LcGo (Itl K a) H1 g tt te vs σ D Qd :=
  lc_lst h _ _ np (by rw [List.length_map]; exact hn) (fun i hi => by
    rw [List.length_map] at hi
    rw [atS_of (List.getElem?_eq_getElem hi)]
    exact nl _ (List.getElem_mem hi)) (lcs_turn hs) (lcs_end hd)
theorem lcs_sq {a : Addr} {ws : List Str} {Qd : Addr → Hp → Prop} (h : Sq K H1 a (ws.map V.str)) (p : Str → Bool) (F : Str → PyData) (hn : ws.length ≤ 1000000) (nl : ∀ z ∈ ws, noList (F z) = true) (hs : LcsTurn K H1 ws g tt te vs σ p F)
    (hd : ∀ D, H1 D = none → LcsEnd K H1 ws p F D (Qd D)) :
    ((∃ xs, SqL K H1 a xs) ∧ ∀ D, H1 D = none → LcGo (Itl K a) H1 g tt te vs σ D (Qd D)) ∨ ((∃ xs, SqT K H1 a xs) ∧ ∀ D, H1 D = none → LcGo (Itt K a) H1 g tt te vs σ D (Qd D)) :=
  h.elim (fun q => .inl ⟨⟨_, q⟩, fun D np => lcs_lst q p F np hn nl hs (hd D np)⟩) fun q => .inr ⟨⟨_, q⟩, fun D np => lcs_tp q p F np hn nl hs (hd D np)⟩
end
theorem inV_strs (x : Str) (ws : List Str) : inV (.str x) (ws.map V.str) = decide (x ∈ ws) := by
  unfold inV
  rw [List.any_map]
  by_cases h : x ∈ ws
  · rw [decide_eq_true h]
    exact List.any_eq_true.mpr ⟨x, h, by simp [eqV]⟩
  · rw [decide_eq_false h]
    refine Bool.eq_false_iff.mpr fun z => h ?_
    obtain ⟨y, hy, e⟩ := List.any_eq_true.mp z
    have e2 : y = x := by simpa [eqV] using e
    exact e2 ▸ hy
theorem flat_strs (ws : List Str) : (ws.map V.str).all flatV = true := by
  rw [List.all_map]
  exact List.all_eq_true.mpr fun _ _ => rfl
/-- the windows without a lot -/
def minus (ws lot : List Str) : List Str := ws.filter fun x => !decide (x ∈ lot)
theorem minus_mem {ws lot : List Str} {x : Str} : x ∈ minus ws lot ↔ x ∈ ws ∧ x ∉ lot := by
  unfold minus
  rw [List.mem_filter, Bool.not_eq_true', decide_eq_false_iff_not]
theorem minus_len (ws lot : List Str) : (minus ws lot).length ≤ ws.length := List.length_filter_le ..
theorem minus_asc {ws lot : List Str} (h : Asc ws) : Asc (minus ws lot) := List.Pairwise.filter _ h
theorem filter_strs (ws : List Str) (p : Str → Bool) : (ws.filter p).map PyData.str = (ws.filter p).map PyData.str := rfl
/-- a list of bools that all are true -/
theorem bls_all {K : PySem.W.Frag} {H : Hp} {acc : List V} {α : Type} {xs : List α} {f : α → Bool} (h : DpAll K H acc (xs.map fun x => PyData.bool (f x))) : acc = (xs.map f).map V.bl := bls_dpa (by rw [List.map_map]; exact h)
theorem filter_true {α : Type} (xs : List α) : xs.filter (fun _ => true) = xs := List.filter_eq_self.mpr fun _ _ => rfl
/-- x != () -/
theorem ne_nilT (l : List Str) : (!PyData.eqv (strsT l) (.tuple [])) = !decide (l = []) := by
  show (!PyData.eqvAll (l.map .str) (([] : List Str).map .str)) = _
  rw [eqvStrs]
theorem cut_to (x : Str) (k : Nat) : cutS x none (some (k : Int)) = tx ((sg x).take k) := by
  unfold cutS tx sg
  have e1 : HT.sIx x.length 0 none = 0 := rfl
  have e2 : HT.sIx x.length x.length (some (k : Int)) = min k x.length := HT.sIx_nat _ _ _
  rw [e1, e2, List.drop_zero, Nat.sub_zero]
  congr 2
  have hl : x.cps.toList.length = x.length := rfl
  by_cases h : k ≤ x.length
  · rw [Nat.min_eq_left h]
  · rw [Nat.min_eq_right (by omega), List.take_of_length_le (by omega), List.take_of_length_le (by omega)]
theorem cutV_to (xs : List V) (k : Nat) : cutV xs none (some (k : Int)) = xs.take k := by
  unfold cutV
  have e1 : HT.sIx xs.length 0 none = 0 := rfl
  have e2 : HT.sIx xs.length xs.length (some (k : Int)) = min k xs.length := HT.sIx_nat _ _ _
  rw [e1, e2, List.drop_zero, Nat.sub_zero]
  by_cases h : k ≤ xs.length
  · rw [Nat.min_eq_left h]
  · rw [Nat.min_eq_right (by omega), List.take_of_length_le (by omega), List.take_of_length_le (by omega)]
theorem map_eraseIdx {α β : Type} (f : α → β) : ∀ (l : List α) (k : Nat), (l.map f).eraseIdx k = (l.eraseIdx k).map f
  | [], _ => rfl
  | _ :: _, 0 => rfl
  | x :: l, k + 1 => congrArg (f x :: ·) (map_eraseIdx f l k)
/-! ### a ring text's steps -/
def cyc (l : List Nat) (i n : Nat) : List Nat := (List.range n).map fun j => l.getD ((i + j) % l.length) 0
def rnd (n : Nat) (r : Str) : List Str := (List.range r.length).map fun i => tx (cyc (sg r) i n)
def rep (k : Nat) (l : List Nat) : List Nat := (List.replicate k l).flatten
theorem rep_len (k : Nat) (l : List Nat) : (rep k l).length = k * l.length := by
  unfold rep
  rw [List.length_flatten, List.map_replicate, List.sum_replicate_nat]
theorem rep_snoc (k : Nat) (l : List Nat) : rep (k + 1) l = rep k l ++ l := by
  unfold rep
  rw [List.replicate_succ', List.flatten_append]
  simp
theorem rep_get {l : List Nat} : ∀ {k m : Nat}, m < k * l.length → (rep k l)[m]? = some (l.getD (m % l.length) 0)
  | 0, m, h => by omega
  | k + 1, m, h => by
    have e : rep (k + 1) l = l ++ rep k l := by
      unfold rep
      rw [List.replicate_succ, List.flatten_cons]
    have hs : (k + 1) * l.length = k * l.length + l.length := Nat.succ_mul ..
    rw [e]
    by_cases hm : m < l.length
    · rw [List.getElem?_append_left hm, Nat.mod_eq_of_lt hm, List.getElem?_eq_getElem hm, List.getD_eq_getElem?_getD, List.getElem?_eq_getElem hm]
      rfl
    · rw [List.getElem?_append_right (by omega), rep_get (k := k) (by omega)]
      congr 2
      rw [Nat.mod_eq_sub_mod (by omega : m ≥ l.length)]
theorem rep_cut {l : List Nat} {k i n : Nat} (h : i + n ≤ k * l.length) : ((rep k l).drop i).take n = cyc l i n := by
  apply List.ext_getElem?
  intro j
  unfold cyc
  by_cases hj : j < n
  · rw [List.getElem?_take_of_lt hj, List.getElem?_drop, rep_get (by omega), List.getElem?_map, List.getElem?_range hj]
    rfl
  · rw [List.getElem?_eq_none (by rw [List.length_take]; omega), List.getElem?_eq_none (by rw [List.length_map, List.length_range]; omega)]
theorem cyc_len (l : List Nat) (i n : Nat) : (cyc l i n).length = n := by
  unfold cyc
  rw [List.length_map, List.length_range]
theorem rnd_len (n : Nat) (r : Str) : (rnd n r).length = r.length := by
  unfold rnd
  rw [List.length_map, List.length_range]
theorem cyc_mem {l : List Nat} {i n c : Nat} (hl : 0 < l.length) (h : c ∈ cyc l i n) : c ∈ l := by
  obtain ⟨j, _, rfl⟩ := List.mem_map.mp h
  have hm : (i + j) % l.length < l.length := Nat.mod_lt _ hl
  rw [List.getD_eq_getElem?_getD, List.getElem?_eq_getElem hm]
  exact List.getElem_mem hm
theorem rnd_mem {n : Nat} {r x : Str} (h : x ∈ rnd n r) : x.length = n ∧ ∀ c ∈ sg x, c ∈ sg r := by
  obtain ⟨i, hi, rfl⟩ := List.mem_map.mp h
  have hi := List.mem_range.mp hi
  exact ⟨cyc_len .., fun c hc => cyc_mem (by rw [← len_sg]; omega) hc⟩
/-! ### dicts by a function -/
def fkv (f : Str → V) (ks : List Str) : List (Key × V) := ks.map fun k => (kS k, f k)
theorem fkv_keys (f : Str → V) (ks : List Str) : (fkv f ks).map (·.1) = ks.map kS := by
  unfold fkv
  rw [List.map_map]
  rfl
theorem fkv_len (f : Str → V) (ks : List Str) : (fkv f ks).length = ks.length := List.length_map ..
theorem fkv_val {f : Str → V} {k : Str} : ∀ {ks : List Str}, k ∈ ks → valV (fkv f ks) (kS k) = some (f k)
  | z :: ks, h => by
    by_cases e : z = k
    · subst e
      exact valV_pos rfl
    · show valV ((kS z, f z) :: fkv f ks) (kS k) = _
      rw [valV_neg fun q => e (inr_inj.mp q)]
      exact fkv_val ((List.mem_cons.mp h).resolve_left fun q => e q.symm)
theorem fkv_none {f : Str → V} {k : Str} {ks : List Str} (h : k ∉ ks) : valV (fkv f ks) (kS k) = none := valV_none (fkv_keys f ks) h
theorem fkv_in {f : Str → V} {k : Str} {ks : List Str} : (valV (fkv f ks) (kS k)).isSome = decide (k ∈ ks) := valV_keys (fkv_keys f ks) k
theorem fkv_put {f : Str → V} {ks : List Str} {k : Str} {v : V} : putK (fkv f ks) (kS k) v = fkv (fun z => if z = k then v else f z) (addS ks k) := by
  unfold putK
  rw [valV_any, fkv_in]
  by_cases h : k ∈ ks
  · rw [if_pos (decide_eq_true h), addS, if_pos h]
    unfold fkv
    rw [List.map_map]
    refine List.map_congr_left fun z _ => ?_
    show (if kS z = kS k then (kS z, v) else (kS z, f z)) = (kS z, if z = k then v else f z)
    by_cases e : z = k
    · rw [if_pos (inr_inj.mpr e), if_pos e]
    · rw [if_neg fun q => e (inr_inj.mp q), if_neg e]
  · rw [if_neg (by rw [decide_eq_false h]; exact Bool.false_ne_true), addS, if_neg h]
    unfold fkv
    rw [List.map_append]
    congr 1
    · refine List.map_congr_left fun z hz => ?_
      have e : z ≠ k := fun q => h (q ▸ hz)
      show (kS z, f z) = (kS z, if z = k then v else f z)
      rw [if_neg e]
    · show [(kS k, v)] = [(kS k, if k = k then v else f k)]
      rw [if_pos rfl]
/-- how often -/
def cnt (xs : List Str) (s : Str) : Nat := (xs.filter fun y => decide (y = s)).length
theorem cnt_snoc (xs : List Str) (x s : Str) : cnt (xs ++ [x]) s = cnt xs s + (if s = x then 1 else 0) := by
  unfold cnt
  rw [List.filter_append, List.length_append]
  congr 1
  by_cases h : s = x
  · rw [if_pos h, List.filter_cons, if_pos (decide_eq_true h.symm)]
    rfl
  · rw [if_neg h, List.filter_cons, if_neg fun q => h (of_decide_eq_true q).symm]
    rfl
theorem cnt_no {xs : List Str} {s : Str} (h : s ∉ xs) : cnt xs s = 0 := by
  unfold cnt
  have e : (xs.filter fun y => decide (y = s)) = [] := List.filter_eq_nil_iff.mpr fun y hy q => by
    have e2 : y = s := of_decide_eq_true q
    exact h (e2 ▸ hy)
  rw [e]
  rfl
theorem cnt_le (xs : List Str) (s : Str) : cnt xs s ≤ xs.length := List.length_filter_le ..
/-- the dict of a tally -/
def tkv (xs : List Str) : List (Key × V) := fkv (fun s => .int (cnt xs s)) (ded xs)
theorem tkv_snoc (xs : List Str) (x : Str) : putK (tkv xs) (kS x) (.int ((cnt xs x : Int) + 1)) = tkv (xs ++ [x]) := by
  unfold tkv
  rw [fkv_put, ded_snoc]
  congr 1
  funext z
  rw [cnt_snoc]
  by_cases h : z = x
  · rw [if_pos h, if_pos h, h]
    rfl
  · rw [if_neg h, if_neg h]
    rfl
theorem tkv_get (xs : List Str) (x : Str) : (valV (tkv xs) (kS x)).getD (.int 0) = .int (cnt xs x) := by
  unfold tkv
  by_cases h : x ∈ ded xs
  · rw [fkv_val h]
    rfl
  · rw [fkv_none h, cnt_no fun q => h (ded_mem.mpr q)]
    rfl
/-- a sum of two tuples -/
theorem cat_T {K : PySem.W.Frag} {H : Hp} {a b : Addr} {xs ys : List V} {Q : VK} (h1 : SqT K H a xs) (h2 : SqT K H b ys) (hl : xs.length + ys.length ≤ sizeLine) (q : ∀ p H', Ex H H' → SqT K H' p (xs ++ ys) → Q (.ref p) H') : rCatA K (.ref a) (.ref b) H Q := by
  refine ⟨a, b, xs, ys, rfl, rfl, h1, h2, hl, fun e => ?_, fun _ e => ?_, fun _ _ p np => q _ _ (Ex.new np) (SqT.of upd_same)⟩
  · subst e
    exact q _ _ (Ex.refl _) h2
  · subst e
    exact q _ _ (Ex.refl _) (by rw [List.append_nil]; exact h1)
theorem cat_strs {K : PySem.W.Frag} {H : Hp} {a b : Addr} {xs ys : List Str} {Q : VK} (h1 : SqT K H a (xs.map V.str)) (h2 : SqT K H b (ys.map V.str)) (hl : xs.length + ys.length ≤ 1000000) (q : ∀ p H', Ex H H' → SqT K H' p ((xs ++ ys).map V.str) → Q (.ref p) H') : rCatA K (.ref a) (.ref b) H Q :=
  cat_T h1 h2 (by rw [List.length_map, List.length_map]; exact sz_of hl) fun p H' e h => q p H' e (by rw [List.map_append]; exact h)
/-! ### comprehensions over a list of data -/
section
variable {α : Type} [Inhabited α]
def atD (xs : List α) (i : Nat) : α := xs.getD i default
theorem atD_of {xs : List α} {i : Nat} {z : α} (h : xs[i]? = some z) : atD xs i = z := by
  unfold atD
  rw [List.getD_eq_getElem?_getD, h]
  rfl
theorem givenA (xs : List α) (p : α → Bool) (F : α → PyData) : givenD xs.length (fun i => p (atD xs i)) (fun i => F (atD xs i)) = (xs.filter p).map F := by
  unfold givenD
  have e : (List.range xs.length).filter (fun i => p (atD xs i)) = (List.range xs.length).filter (p ∘ atD xs) := rfl
  have e2 : (fun i => F (atD xs i)) = F ∘ atD xs := rfl
  have e3 : (List.range xs.length).map (atD xs) = xs := by
    apply List.ext_getElem
    · simp
    · intro i h1 h2
      rw [List.getElem_map, List.getElem_range]
      exact atD_of (List.getElem?_eq_getElem h2)
  rw [e, e2, ← List.map_map, ← List.filter_map, e3]
variable {K : PySem.W.Frag} {H1 : Hp} {g : TG} {tt : TT} {te : TE} {vs : List Nat} {σ : L2.St} {D : Addr} {Qd : Hp → Prop}
theorem lcd_lst {a : Addr} {acc : List V} {xs : List α} {C : α → PyData} (h : SqL K H1 a acc) (ha : DpAll K H1 acc (xs.map C)) (p : α → Bool) (F : α → PyData) (np : H1 D = none) (hn : xs.length ≤ 1000000) (nl : ∀ z ∈ xs, noList (F z) = true)
    (hs : ∀ (z : α) (v : V) (H2 : Hp) (Y : VK) (Z : Hp → Prop), z ∈ xs → Ex H1 H2 → Dp K H2 v (C z) → (p z = true → ∀ y H3, Ex H2 H3 → Dp K H3 y (F z) → Y y H3) → (p z = false → ∀ H3, Ex H2 H3 → Z H3) →
      g v (wipe σ vs) H2 fun σ2 H3 => wipe σ2 vs = wipe σ vs ∧ tt σ2 H3 fun b H4 => if b = true then te σ2 H4 Y else Z H4)
    (hd : ∀ H' acc, Ex H1 H' → H' D = some (.lst acc) → DpAll K H' acc ((xs.filter p).map F) → Qd H') : LcGo (Itl K a) H1 g tt te vs σ D Qd := by
  have hl : acc.length = xs.length := by rw [dpa_len ha, List.length_map]
  refine lc_lst h (fun i => p (atD xs i)) (fun i => F (atD xs i)) np (by omega) (fun i hi => ?_) (fun i x H2 Y Z hi e it hy hn => ?_) (fun H' acc' e hp hda => ?_)
  · rw [atD_of (List.getElem?_eq_getElem (by omega : i < xs.length))]
    exact nl _ (List.getElem_mem _)
  · obtain ⟨d, hd1, hd2⟩ := dpa_get ha it
    rw [List.getElem?_map] at hd1
    cases hx : xs[i]? with
    | none => rw [hx] at hd1; cases hd1
    | some z =>
      rw [hx] at hd1
      obtain rfl : C z = d := Option.some.inj hd1
      have ez := atD_of hx
      subst ez
      exact hs _ x H2 Y Z (List.mem_of_getElem? hx) e (dp_ex e hd2) hy hn
  · rw [hl, givenA] at hda
    exact hd H' acc' e hp hda
end
end My

/-! webs from behind -/
namespace My
open PySem PySem.Spec PyProof.Rows L2 Evl
theorem sg_rev (x : Str) : sg (revS x) = (sg x).reverse := rfl
theorem rev_rev (x : Str) : revS (revS x) = x := sg_inj (by rw [sg_rev, sg_rev, List.reverse_reverse])
theorem rev_inj {x y : Str} (h : revS x = revS y) : x = y := by rw [← rev_rev x, h, rev_rev]
theorem rev_len (x : Str) : (revS x).length = x.length := by rw [len_sg, sg_rev, List.length_reverse, ← len_sg]
theorem beg_rev (x : Str) : begS (revS x) = revS (endS x) := sg_inj (by
  show ((sg x).reverse).dropLast = ((sg x).drop 1).reverse
  rw [List.drop_one, List.dropLast_reverse])
theorem end_rev (x : Str) : endS (revS x) = revS (begS x) := sg_inj (by
  show ((sg x).reverse).drop 1 = ((sg x).dropLast).reverse
  rw [List.drop_one, List.tail_reverse])
theorem word_rev {x : Str} (h : Word x) : Word (revS x) := fun c hc => h c (List.mem_reverse.mp hc)
abbrev revs (ws : List Str) : List Str := ws.map revS
theorem plcs_revs {ws : List Str} {p : Str} : revS p ∈ plcs (revs ws) ↔ p ∈ plcs ws := by
  rw [plcs_mem, plcs_mem]
  constructor
  · rintro ⟨x, hx, h⟩
    obtain ⟨y, hy, rfl⟩ := List.mem_map.mp hx
    refine ⟨y, hy, ?_⟩
    rw [beg_rev, end_rev] at h
    exact h.elim (fun q => .inr (rev_inj q)) fun q => .inl (rev_inj q)
  · rintro ⟨y, hy, h⟩
    refine ⟨revS y, List.mem_map.mpr ⟨y, hy, rfl⟩, ?_⟩
    rw [beg_rev, end_rev]
    exact h.elim (fun q => .inr (by rw [q])) fun q => .inl (by rw [q])
theorem nxts_revs {ws : List Str} {p q : Str} : revS q ∈ nxts (revs ws) (revS p) ↔ p ∈ nxts ws q := by
  rw [nxts_mem, nxts_mem]
  constructor
  · rintro ⟨x, hx, h1, h2⟩
    obtain ⟨y, hy, rfl⟩ := List.mem_map.mp hx
    rw [beg_rev] at h1
    rw [end_rev] at h2
    exact ⟨y, hy, rev_inj h2, rev_inj h1⟩
  · rintro ⟨y, hy, h1, h2⟩
    exact ⟨revS y, List.mem_map.mpr ⟨y, hy, rfl⟩, by rw [beg_rev, h2], by rw [end_rev, h1]⟩
theorem rch_head {sc : Str → List Str} {a b c : Str} (h : b ∈ sc a) (r : Rch sc b c) : Rch sc a c := Rch.trans (Rch.refl.step h) r
theorem rch_revs1 {ws : List Str} {a : Str} : ∀ {z : Str}, Rch (nxts (revs ws)) (revS a) z → Rch (nxts ws) (revS z) a := by
  intro z h
  induction h with
  | refl =>
    rw [rev_rev]
    exact .refl
  | step h hc ih =>
    rename_i b c
    have e : revS (revS c) ∈ nxts (revs ws) (revS (revS b)) := by rw [rev_rev, rev_rev]; exact hc
    exact rch_head (nxts_revs.mp e) ih
theorem rch_revs {ws : List Str} {a b : Str} : Rch (nxts (revs ws)) (revS a) (revS b) ↔ Rch (nxts ws) b a := by
  constructor
  · intro h
    have z := rch_revs1 h
    rwa [rev_rev] at z
  · intro h
    induction h with
    | refl => exact .refl
    | step h hc ih =>
      rename_i x y
      exact rch_head (nxts_revs.mpr hc) ih
theorem nodup_full {ks l : List Str} (nd : ks.Nodup) (h : ∀ x ∈ ks, x ∈ l) (hl : l.length ≤ ks.length) : ∀ x ∈ l, x ∈ ks := fun x hx => by
  by_cases hk : x ∈ ks
  · exact hk
  · have z := nodup_len (ks := x :: ks) (l := l) (List.nodup_cons.mpr ⟨hk, nd⟩) fun y hy => (List.mem_cons.mp hy).elim (fun e => e ▸ hx) (h y)
    rw [List.length_cons] at z
    omega
theorem nodup_map {f : Str → Str} (hf : ∀ {x y}, f x = f y → x = y) : ∀ {l : List Str}, l.Nodup → (l.map f).Nodup
  | [], _ => List.nodup_nil
  | x :: l, h => by
    obtain ⟨h1, h2⟩ := List.nodup_cons.mp h
    rw [List.map_cons]
    refine List.nodup_cons.mpr ⟨fun q => h1 ?_, nodup_map hf h2⟩
    obtain ⟨y, hy, e⟩ := List.mem_map.mp q
    exact hf e ▸ hy
/-- what the law counts -/
theorem hangs_by {ws ks rks : List Str} {p : Str} (hp : p ∈ plcs ws) (nd : ks.Nodup) (h : ∀ q, q ∈ ks ↔ Rch (nxts ws) p q) (rnd : rks.Nodup) (rh : ∀ q, q ∈ rks ↔ Rch (nxts (revs ws)) (revS p) q) :
    (ks.length = (ded (plcs ws)).length ∧ (ded (plcs ws)).length = rks.length) ↔ Hang ws := by
  have sub : ∀ q ∈ ks, q ∈ ded (plcs ws) := fun q hq => ded_mem.mpr (rch_plc hp ((h q).mp hq))
  have rp : revS p ∈ plcs (revs ws) := plcs_revs.mpr hp
  have rsub : ∀ q ∈ rks.map revS, q ∈ ded (plcs ws) := fun q hq => by
    obtain ⟨y, hy, rfl⟩ := List.mem_map.mp hq
    have z := rch_plc rp ((rh y).mp hy)
    rw [← rev_rev y] at z
    exact ded_mem.mpr (plcs_revs.mp z)
  have rnd2 : (rks.map revS).Nodup := nodup_map rev_inj rnd
  have rl : (rks.map revS).length = rks.length := List.length_map ..
  have back : ∀ q, q ∈ rks.map revS ↔ Rch (nxts ws) q p := fun q => by
    rw [← rch_revs, ← rh]
    constructor
    · intro hq
      obtain ⟨y, hy, rfl⟩ := List.mem_map.mp hq
      rw [rev_rev]
      exact hy
    · intro hq
      exact List.mem_map.mpr ⟨_, hq, rev_rev q⟩
  constructor
  · rintro ⟨e1, e2⟩ a ha b hb
    have f1 := nodup_full nd sub (by omega) b (ded_mem.mpr hb)
    have f2 := nodup_full rnd2 rsub (by omega) a (ded_mem.mpr ha)
    exact ((back a).mp f2).trans ((h b).mp f1)
  · intro hh
    have l1 := nodup_len nd sub
    have l2 := nodup_len rnd2 rsub
    have l3 := nodup_len (ded_nd (plcs ws)) (l := ks) fun q hq => (h q).mpr (hh p hp q (ded_mem.mp hq))
    have l4 := nodup_len (ded_nd (plcs ws)) (l := rks.map revS) fun q hq => (back q).mpr (hh q (ded_mem.mp hq) p hp)
    omega
end My

/-! what may go from a web -/
namespace My
open PySem PySem.Spec PyProof.Rows L2 Evl
/-- all windows have n letters, n at least 2 -/
def Lng (ws : List Str) : Prop := ∃ n, 2 ≤ n ∧ ∀ x ∈ ws, x.length = n
theorem Lng.sub {ws vs : List Str} (h : Lng ws) (s : ∀ x ∈ vs, x ∈ ws) : Lng vs := by
  obtain ⟨n, h1, h2⟩ := h
  exact ⟨n, h1, fun x hx => h2 x (s x hx)⟩
theorem rch_mono {A B : List Str} (s : ∀ x ∈ A, x ∈ B) {a b : Str} (h : Rch (nxts A) a b) : Rch (nxts B) a b := by
  induction h with
  | refl => exact .refl
  | step _ hc ih =>
    obtain ⟨x, hx, h1, h2⟩ := nxts_mem.mp hc
    exact ih.step (nxts_mem.mpr ⟨x, s x hx, h1, h2⟩)
theorem rch_out {ws : List Str} {p q : Str} (h : Rch (nxts ws) p q) (hn : q ≠ p) : ∃ x ∈ ws, begS x = p ∧ endS x ≠ p := by
  induction h with
  | refl => exact absurd rfl hn
  | step hb hc ih =>
    rename_i b c
    by_cases e : b = p
    · subst e
      obtain ⟨x, hx, h1, h2⟩ := nxts_mem.mp hc
      exact ⟨x, hx, h1, by rw [h2]; exact hn⟩
    · exact ih e
theorem rch_in {ws : List Str} {p q : Str} (h : Rch (nxts ws) q p) (hn : q ≠ p) : ∃ x ∈ ws, endS x = p ∧ begS x ≠ p := by
  have key : ∀ {z : Str}, Rch (nxts ws) q z → z = p → ∃ x ∈ ws, endS x = p ∧ begS x ≠ p := by
    intro z h
    induction h with
    | refl => exact fun e => absurd e hn
    | step hb hc ih =>
      rename_i b c
      intro e
      by_cases e2 : b = p
      · exact ih e2
      · obtain ⟨x, hx, h1, h2⟩ := nxts_mem.mp hc
        exact ⟨x, hx, by rw [h2, e], by rw [h1]; exact e2⟩
  exact key h rfl
theorem loop_one {x y p : Str} (hl : 2 ≤ x.length) (hy : y.length = x.length) (h1 : begS x = p) (h2 : endS x = p) (h3 : begS y = p) (h4 : endS y = p) : x = y := by
  have s1 : (sg x).dropLast = sg p := congrArg sg h1
  have s2 : (sg x).drop 1 = sg p := congrArg sg h2
  have s3 : (sg y).dropLast = sg p := congrArg sg h3
  have s4 : (sg y).drop 1 = sg p := congrArg sg h4
  rw [len_sg] at hl hy
  rw [len_sg] at hy
  have key : ∀ {l : List Nat}, 2 ≤ l.length → l.dropLast = sg p → l.drop 1 = sg p → ∃ c, (sg p).head? = some c ∧ l = c :: sg p := by
    intro l hl d1 d2
    match l, hl with
    | a :: b :: r, _ =>
      refine ⟨a, ?_, ?_⟩
      · rw [← d1]
        rfl
      · rw [← d2]
        rfl
  obtain ⟨c, hc, e1⟩ := key hl s1 s2
  obtain ⟨d, hd, e2⟩ := key (by omega) s3 s4
  rw [hc] at hd
  cases hd
  exact sg_inj (e1.trans e2.symm)
theorem minus_sub {ws lot : List Str} : ∀ x ∈ minus ws lot, x ∈ ws := fun x hx => (minus_mem.mp hx).1
theorem plcs_sub {A B : List Str} (s : ∀ x ∈ A, x ∈ B) : ∀ p ∈ plcs A, p ∈ plcs B := fun p hp => by
  obtain ⟨x, hx, h⟩ := plcs_mem.mp hp
  exact plcs_mem.mpr ⟨x, s x hx, h⟩
/-- without one window, all places stand -/
theorem plcs_keep {C : List Str} {e : Str} (hl : Lng C) (hC : Hang C) (hne : minus C [e] ≠ []) : ∀ p ∈ plcs C, p ∈ plcs (minus C [e]) := by
  intro p hp
  by_cases hall : ∀ q ∈ plcs C, q = p
  · obtain ⟨x, hx⟩ := List.exists_mem_of_ne_nil _ hne
    have hxC := minus_sub x hx
    exact plcs_mem.mpr ⟨x, hx, .inl (hall _ (beg_mem hxC)).symm⟩
  · have : ∃ q, q ∈ plcs C ∧ q ≠ p := Classical.byContradiction fun h => hall fun q hq => Classical.byContradiction fun h2 => h ⟨q, hq, h2⟩
    obtain ⟨q, hq, hqp⟩ := this
    obtain ⟨x, hx, h1, h2⟩ := rch_out (hC p hp q hq) hqp
    obtain ⟨y, hy, h3, h4⟩ := rch_in (hC q hq p hp) hqp
    by_cases hxe : x = e
    · have hye : y ≠ e := fun z => h4 (by rw [z, ← hxe]; exact h1)
      exact plcs_mem.mpr ⟨y, minus_mem.mpr ⟨hy, fun z => hye (List.mem_singleton.mp z)⟩, .inr h3.symm⟩
    · exact plcs_mem.mpr ⟨x, minus_mem.mpr ⟨hx, fun z => hxe (List.mem_singleton.mp z)⟩, .inl h1.symm⟩
theorem hang_grow {A B : List Str} (s : ∀ x ∈ A, x ∈ B) (p : ∀ q ∈ plcs B, q ∈ plcs A) (h : Hang A) : Hang B := fun a ha b hb => rch_mono s (h a (p a ha) b (p b hb))
theorem minus_nil (ws : List Str) : minus ws [] = ws := List.filter_eq_self.mpr fun x _ => by
  rw [decide_eq_false (List.not_mem_nil)]
  rfl
theorem minus_snoc (ws R : List Str) (x : Str) : minus ws (R ++ [x]) = minus (minus ws R) [x] := by
  unfold minus
  rw [List.filter_filter]
  refine List.filter_congr fun y _ => ?_
  rw [← Bool.not_or]
  congr 1
  rw [Bool.eq_iff_iff, decide_eq_true_iff, Bool.or_eq_true, decide_eq_true_iff, decide_eq_true_iff, List.mem_append]
  exact or_comm
noncomputable def restF (ws : List Str) (acc : List Str) (x : Str) : List Str := if scB (minus ws (acc ++ [x])) = true then acc ++ [x] else acc
noncomputable def restL (ws : List Str) : List Str := ws.foldl (restF ws) []
/-- behind i windows -/
structure RestInv (ws : List Str) (i : Nat) (acc : List Str) : Prop where
  sub : ∀ x ∈ acc, x ∈ ws.take i
  own : acc = (ws.take i).filter fun x => decide (x ∈ acc)
  sc : Sc (minus ws acc)
  pl : ∀ p ∈ plcs ws, p ∈ plcs (minus ws acc)
  no : ∀ x ∈ ws.take i, x ∉ acc → ∃ b : List Str, (∀ y ∈ b, y ∈ acc) ∧ ¬ Sc (minus ws (b ++ [x]))
theorem restInv_at {ws : List Str} (nd : ws.Nodup) (hl : Lng ws) (h : Sc ws) : ∀ {i : Nat}, i ≤ ws.length → RestInv ws i ((ws.take i).foldl (restF ws) [])
  | 0, _ => ⟨fun x hx => (List.not_mem_nil hx).elim, rfl, by rw [List.take_zero]; show Sc (minus ws []); rw [minus_nil]; exact h, fun p hp => by rw [List.take_zero]; show p ∈ plcs (minus ws []); rw [minus_nil]; exact hp, fun x hx => by rw [List.take_zero] at hx; cases hx⟩
  | i + 1, hi => by
    have hz : ws[i]? = some ws[i] := List.getElem?_eq_getElem (by omega)
    have I := restInv_at nd hl h (i := i) (by omega)
    rw [take_snoc hz, List.foldl_append]
    generalize ws[i] = z at hz
    generalize (ws.take i).foldl (restF ws) [] = acc at I
    have zt : z ∉ ws.take i := fun hm => by
      have e : ws = ws.take i ++ z :: ws.drop (i + 1) := by
        have h1 := (List.take_append_drop i ws).symm
        rw [List.drop_eq_getElem_cons (by omega : i < ws.length)] at h1
        have h2 : ws[i] = z := by
          rw [List.getElem?_eq_getElem (by omega)] at hz
          exact Option.some.inj hz
        rw [h2] at h1
        exact h1
      rw [e] at nd
      exact (List.nodup_append.mp nd).2.2 z hm z (List.mem_cons_self ..) rfl
    have zacc : z ∉ acc := fun hm => zt (I.sub z hm)
    show RestInv ws (i + 1) (restF ws acc z)
    have tk := take_snoc hz
    unfold restF
    split
    · rename_i hs
      have hS := scB_iff.mp hs
      refine ⟨fun x hx => ?_, ?_, hS, fun p hp => ?_, fun x hx hn => ?_⟩
      · rw [tk]
        exact (List.mem_append.mp hx).elim (fun q => List.mem_append_left _ (I.sub x q)) fun q => List.mem_append_right _ q
      · rw [tk, List.filter_append]
        congr 1
        · refine I.own.trans (List.filter_congr fun x hx => ?_)
          rw [decide_eq_decide, List.mem_append]
          exact ⟨.inl, fun q => q.resolve_right fun q => zt (List.mem_singleton.mp q ▸ hx)⟩
        · rw [List.filter_cons, if_pos (decide_eq_true (List.mem_append_right _ (List.mem_singleton.mpr rfl)))]
          rfl
      · rw [minus_snoc]
        rw [minus_snoc] at hS
        exact plcs_keep (hl.sub minus_sub) I.sc.2 hS.1 p (I.pl p hp)
      · rw [tk] at hx
        rcases List.mem_append.mp hx with hx | hx
        · obtain ⟨b, hb1, hb2⟩ := I.no x hx fun q => hn (List.mem_append_left _ q)
          exact ⟨b, fun y hy => List.mem_append_left _ (hb1 y hy), hb2⟩
        · exact absurd (List.mem_append_right _ hx) hn
    · rename_i hs
      refine ⟨fun x hx => by rw [tk]; exact List.mem_append_left _ (I.sub x hx), ?_, I.sc, I.pl, fun x hx hn => ?_⟩
      · rw [tk, List.filter_append, List.filter_cons, if_neg (by rw [decide_eq_false zacc]; exact Bool.false_ne_true), List.filter_nil, List.append_nil]
        exact I.own
      · rw [tk] at hx
        rcases List.mem_append.mp hx with hx | hx
        · exact I.no x hx hn
        · rw [List.mem_singleton.mp hx]
          exact ⟨acc, fun y hy => hy, fun q => hs (scB_iff.mpr q)⟩
theorem asc_nodup {ws : List Str} (h : Asc ws) : ws.Nodup := h.nodup
/-- what rest gives -/
theorem rest_right {ws : List Str} (nd : ws.Nodup) (hl : Lng ws) (h : Sc ws) : restL ws = ws.filter (fun x => decide (x ∈ restL ws)) ∧ Sc (minus ws (restL ws)) ∧ ∀ x ∈ minus ws (restL ws), ¬ Sc (minus (minus ws (restL ws)) [x]) := by
  have I := restInv_at nd hl h (Nat.le_refl ws.length)
  rw [take_len] at I
  have e : ws.foldl (restF ws) [] = restL ws := rfl
  rw [e] at I
  obtain ⟨i1, i2, i3, i4, i5⟩ := I
  rw [take_len] at i2 i5
  refine ⟨i2, i3, fun x hx hS => ?_⟩
  obtain ⟨hx1, hx2⟩ := minus_mem.mp hx
  obtain ⟨b, hb1, hb2⟩ := i5 x hx1 hx2
  apply hb2
  have sub : ∀ y ∈ minus (minus ws (restL ws)) [x], y ∈ minus ws (b ++ [x]) := fun y hy => by
    obtain ⟨h1, h2⟩ := minus_mem.mp hy
    obtain ⟨h3, h4⟩ := minus_mem.mp h1
    exact minus_mem.mpr ⟨h3, fun q => (List.mem_append.mp q).elim (fun q => h4 (hb1 y q)) h2⟩
  refine ⟨fun z => ?_, hang_grow sub (fun p hp => ?_) hS.2⟩
  · obtain ⟨y, hy⟩ := List.exists_mem_of_ne_nil _ hS.1
    have := sub y hy
    rw [z] at this
    cases this
  · exact plcs_keep (hl.sub minus_sub) i3.2 hS.1 p (i4 p (plcs_sub minus_sub p hp))
end My

/-! a well: a list of three ints that a law's draws change. G is the heap without it -/
namespace My
open PySem PySem.Spec PyProof.Rows L2 Evl
structure Wt (w : Addr) (c : Nat) (G H : Hp) : Prop where
  e : Ex G H
  n : G w = none
  h : ∃ (g m : Int) (k : Nat), (k ≤ c ∧ 0 ≤ m ∧ m < 2 ^ 128) ∧ H w = some (.lst [.int g, .int m, .int k])
def hide (w : Addr) (H : Hp) : Hp := fun a => if a = w then none else H a
theorem hide_at {w : Addr} {H : Hp} : hide w H w = none := if_pos rfl
theorem hide_ne {w a : Addr} {H : Hp} (h : a ≠ w) : hide w H a = H a := if_neg h
theorem hide_ex {w : Addr} {H : Hp} : Ex (hide w H) H := fun a o h => by
  by_cases e : a = w
  · rw [e, hide_at] at h
    cases h
  · rw [hide_ne e] at h
    exact h
section
variable {w : Addr} {c : Nat} {G H H' : Hp}
theorem Wt.up {d : Nat} (W : Wt w c G H) (h : c ≤ d) : Wt w d G H := by
  obtain ⟨g, m, k, hk, e⟩ := W.h
  exact ⟨W.e, W.n, g, m, k, by omega, e⟩
/-- what a call that leaves the well alone has made: a heap without the well -/
theorem Wt.ex (W : Wt w c G H) (e : Ex H H') : ∃ G', Ex G G' ∧ Wt w c G' H' ∧ G' = hide w H' := by
  obtain ⟨g, m, k, hk, hw⟩ := W.h
  refine ⟨hide w H', fun a o h => ?_, ⟨hide_ex, hide_at, g, m, k, hk, e _ _ hw⟩, rfl⟩
  rw [hide_ne (ne_of_none h W.n)]
  exact e _ _ (W.e _ _ h)
/-- a new thing -/
theorem Wt.new {p : Addr} {o : HO} (W : Wt w c G H) (np : H p = none) : Wt w c (upd G p o) (upd H p o) := by
  obtain ⟨g, m, k, hk, hw⟩ := W.h
  have hne : w ≠ p := ne_of_none hw np
  exact ⟨My.Ex.upd2 W.e, by rw [upd_ne hne]; exact W.n, g, m, k, hk, by rw [upd_ne hne]; exact hw⟩
/-- a change of a thing that is not the well -/
theorem Wt.mut {p : Addr} {o o' : HO} (W : Wt w c G H) (hp : G p = some o) : Wt w c (upd G p o') (upd H p o') := by
  obtain ⟨g, m, k, hk, hw⟩ := W.h
  have hne : w ≠ p := fun e => by
    have n := W.n
    rw [e, hp] at n
    cases n
  exact ⟨My.Ex.upd2 W.e, by rw [upd_ne hne]; exact W.n, g, m, k, hk, by rw [upd_ne hne]; exact hw⟩
theorem Wt.free {p : Addr} (W : Wt w c G H) (np : H p = none) : G p = none := fresh_back W.e np
end
theorem Wt.set {w : Addr} {c d : Nat} {G H : Hp} {g m : Int} {k : Nat} (W : Wt w c G H) (hk : k ≤ d) (h0 : 0 ≤ m) (h1 : m < 2 ^ 128) : Wt w d G (upd H w (.lst [.int g, .int m, .int k])) := ⟨Ex.mut W.e W.n, W.n, g, m, k, ⟨hk, h0, h1⟩, upd_same⟩
/-- promises of what draws: some data behind, of which R is true, the well used c times at most -/
def RetW (K : PySem.W.Frag) (w : Addr) (c : Nat) (G : Hp) (R : PyData → Prop) (Q : VK) : Prop := ∀ v d G' H', Ex G G' → Wt w c G' H' → Dp K G' v d → R d → Q v H'
/-- three ints, or not -/
def notW : List PyData → Bool
  | [.int _, .int _, .int _] => false
  | _ => true
section
variable {K : PySem.W.Frag} {H : Hp} {w : Addr} {g m k : Int}
theorem sqT_hide {a : Addr} {xs : List V} (hw : H w = some (.lst [.int g, .int m, .int k])) (h : SqT K H a xs) : SqT K (hide w H) a xs := by
  rcases h with (h | ⟨o, h⟩) | h
  · exact .inl (.inl (by rw [hide_ne (ne_of h hw fun z => nomatch z)]; exact h))
  · exact .inl (.inr ⟨o, by rw [hide_ne (ne_of h hw fun z => nomatch z)]; exact h⟩)
  · exact .inr h
mutual
theorem dp_hide (hw : H w = some (.lst [.int g, .int m, .int k])) : ∀ {v : V} {d : PyData}, noList d = true → Dp K H v d → Dp K (hide w H) v d
  | _, _, _, .non => .non
  | _, _, _, .bl b => .bl b
  | _, _, _, .int i => .int i
  | _, _, _, .str x => .str x
  | _, _, n, .lst h ha => nomatch (show false = true from n)
  | _, _, n, .tup h ha => .tup (sqT_hide hw h) (dpa_hide hw n ha)
theorem dpa_hide (hw : H w = some (.lst [.int g, .int m, .int k])) : ∀ {vs : List V} {ds : List PyData}, noLists ds = true → DpAll K H vs ds → DpAll K (hide w H) vs ds
  | _, _, _, .nil => .nil
  | _, _, n, .cons h t => .cons (dp_hide hw (Bool.and_eq_true_iff.mp n).1 h) (dpa_hide hw (Bool.and_eq_true_iff.mp n).2 t)
end
theorem dpa_3 {xs : List V} {ds : List PyData} (h : DpAll K H xs ds) (n : notW ds = true) : xs ≠ [.int g, .int m, .int k] := by
  rintro rfl
  cases h with
  | cons h1 t => cases h1; cases t with
    | cons h2 t => cases h2; cases t with
      | cons h3 t => cases h3; cases t; exact nomatch n
theorem sqL_hide {a : Addr} {xs : List V} (hw : H w = some (.lst [.int g, .int m, .int k])) (hn : xs ≠ [.int g, .int m, .int k]) (h : SqL K H a xs) : SqL K (hide w H) a xs := by
  rcases h with (h | ⟨o, h⟩) | h
  · exact .inl (.inl (by rw [hide_ne (ne_of h hw fun z => hn (HO.lst.inj z))]; exact h))
  · exact .inl (.inr ⟨o, by rw [hide_ne (ne_of h hw fun z => nomatch z)]; exact h⟩)
  · exact .inr h
/-- data that has lists on top only -/
def topList : PyData → Bool
  | .list ds => noLists ds && notW ds
  | d => noList d
theorem dp_hideT {v : V} {d : PyData} (hw : H w = some (.lst [.int g, .int m, .int k])) (n : topList d = true) (h : Dp K H v d) : Dp K (hide w H) v d := by
  cases h with
  | lst h ha =>
    obtain ⟨n1, n2⟩ := Bool.and_eq_true_iff.mp n
    exact .lst (sqL_hide hw (dpa_3 ha n2) h) (dpa_hide hw n1 ha)
  | tup h ha => exact .tup (sqT_hide hw h) (dpa_hide hw n ha)
  | non => exact .non
  | bl b => exact .bl b
  | int i => exact .int i
  | str x => exact .str x
end
theorem noStrs : ∀ (ws : List Str), noLists (ws.map PyData.str) = true
  | [] => rfl
  | x :: ws => noStrs ws
theorem notW_strs : ∀ (ws : List Str), notW (ws.map PyData.str) = true
  | [] => rfl
  | [_] => rfl
  | [_, _] => rfl
  | [_, _, _] => rfl
  | _ :: _ :: _ :: _ :: _ => rfl
theorem topL (ws : List Str) : topList (strsL ws) = true := by
  show (noLists (ws.map PyData.str) && notW (ws.map PyData.str)) = true
  rw [noStrs, notW_strs]
  rfl
theorem topT (ws : List Str) : topList (strsT ws) = true := noStrs ws
/-- a call that leaves the well alone, its data kept -/
theorem Wt.ret {K : PySem.W.Frag} {w : Addr} {c : Nat} {G H H' : Hp} {v : V} {d : PyData} (W : Wt w c G H) (e : Ex H H') (h : Dp K H' v d) (n : topList d = true) : ∃ G', Ex G G' ∧ Wt w c G' H' ∧ Dp K G' v d := by
  obtain ⟨G', e1, W1, rfl⟩ := W.ex e
  obtain ⟨g, m, k, _, hw⟩ := W1.h
  exact ⟨_, e1, W1, dp_hideT hw n h⟩
/-- a new thing of such a call -/
theorem Wt.newt {w a : Addr} {c : Nat} {G H H' : Hp} {o : HO} (W : Wt w c G H) (e : Ex H H') (na : H a = none) (h : H' a = some o) : ∃ G', Ex G G' ∧ Wt w c G' H' ∧ G' a = some o ∧ G a = none := by
  obtain ⟨G', e1, W1, rfl⟩ := W.ex e
  obtain ⟨g, m, k, _, hw⟩ := W.h
  exact ⟨_, e1, W1, by rw [hide_ne (ne_of_none hw na).symm]; exact h, W.free na⟩
/-! ### enumerate -/
theorem src_enum {K : PySem.W.Frag} {Hb : Hp} {a : Addr} {xs : List V} (h : SqL K Hb a xs) : Src (Ite K a) Hb xs.length (fun i x H => ∃ T y, x = .ref T ∧ H T = some (.tup [.int i, y]) ∧ xs[i]? = some y) :=
  ⟨fun i H2 e hi => ⟨xs, xs[i], ex_l e h, List.getElem?_eq_getElem hi⟩, fun i H2 e hi => ⟨xs, ex_l e h, hi⟩, fun i H2 x H3 e _ y => by
    obtain ⟨T, z, rfl, np, rfl, q⟩ := y
    exact ⟨Ex.new np, T, z, rfl, upd_same, q xs (ex_l e h)⟩⟩
theorem fo_enum {K : PySem.W.Frag} {Hb H : Hp} {a : Addr} {xs : List V} {g : TG} {tb : TS} {Dn : Ends} {σ : L2.St} (h : SqL K Hb a xs) (Pv : Nat → L2.St → Hp → Prop) (h0 : Pv 0 σ H) (hE : ∀ i σ H, Pv i σ H → Ex Hb H)
    (hs : ∀ i y T σ H H2, xs[i]? = some y → Pv i σ H → Ex H H2 → H2 T = some (.tup [.int i, y]) → g (.ref T) σ H2 fun σ2 H3 => tb { Dn with nx := Pv (i + 1), ct := Pv (i + 1), bk := Dn.nx } σ2 H3) (hd : ∀ σ H, Pv xs.length σ H → Dn.nx σ H) :
    SqL K H a xs ∧ FoGo (Ite K a) g tb Dn σ H :=
  ⟨ex_l (hE _ _ _ h0) h, for_src (src_enum h) Pv h0 hE (fun i x σ H H2 _ p e ⟨T, y, ex, hT, hy⟩ => by
    subst ex
    exact hs i y T σ H H2 hy p e hT) hd⟩
/-! ### comprehensions that draw -/
theorem lc_w {K : PySem.W.Frag} {J : It} {G0 H1 : Hp} {n : Nat} {item : Nat → V → Hp → Prop} {w : Addr} {g : TG} {tt : TT} {te : TE} {vs : List Nat} {σ : L2.St} {D : Addr} {Qd : Hp → Prop} (S : Src J G0 n item) (hn : n ≤ 1000000) (c : Nat → Nat) (R : Nat → List PyData → Prop)
    (W0 : Wt w (c 0) G0 H1) (np : H1 D = none) (r0 : R 0 [])
    (hs : ∀ (i : Nat) (x : V) (G2 H2 : Hp) (ds : List PyData) (Y : VK) (Z : Hp → Prop), i < n → Ex G0 G2 → Wt w (c i) G2 H2 → item i x H2 → R i ds →
      (∀ y d G3 H3, Ex G2 G3 → Wt w (c (i + 1)) G3 H3 → Dp K G3 y d → noList d = true → R (i + 1) (ds ++ [d]) → Y y H3) → (∀ G3 H3, Ex G2 G3 → Wt w (c (i + 1)) G3 H3 → R (i + 1) ds → Z H3) →
      g x (wipe σ vs) H2 fun σ2 H3 => wipe σ2 vs = wipe σ vs ∧ tt σ2 H3 fun b H4 => if b = true then te σ2 H4 Y else Z H4)
    (hl : ∀ i ds, R i ds → ds.length ≤ i)
    (hd : ∀ G' H' acc ds, Ex G0 G' → Wt w (c n) G' H' → G' D = some (.lst acc) → DpAll K G' acc ds → noLists ds = true → R n ds → Qd H') :
    LcGo J H1 g tt te vs σ D Qd := by
  have big : 1000000 < sizeLine := by decide
  have gD : G0 D = none := W0.free np
  let Pv : Nat → Hp → Prop := fun i H => ∃ G acc ds, Ex G0 G ∧ Wt w (c i) G H ∧ G D = some (.lst acc) ∧ DpAll K G acc ds ∧ noLists ds = true ∧ R i ds
  refine ⟨fun i m H => m = n - i ∧ i ≤ n ∧ Pv i H, ⟨n, by simp, Nat.zero_le _, upd G0 D (.lst []), [], [], Ex.new gD, W0.new np, upd_same, .nil, rfl, r0⟩, ?_⟩
  rintro i m H ⟨rfl, hi, G, acc, ds, e, W, hD, ha, nls, r⟩
  have eH : Ex G0 H := e.trans W.e
  by_cases hlt : i < n
  · refine .inr ⟨S.go i H eH hlt, Pv (i + 1), fun H' p' => ⟨n - (i + 1), by omega, rfl, hlt, p'⟩, fun x H' y => ?_⟩
    obtain ⟨e2, it⟩ := S.yld i H x H' eH hlt y
    obtain ⟨G2, e3, W2, _⟩ := W.ex e2
    refine hs i x G2 H' ds _ _ hlt (e.trans e3) W2 it r (fun z d G6 H6 e6 W6 hz nd hr => ?_) (fun G5 H5 e5 W5 hr => ?_)
    · have h6 : G6 D = some (.lst acc) := e6 _ _ (e3 _ _ hD)
      have m6 : Mu D G6 (upd G6 D (.lst (acc ++ [z]))) := fun q hq => upd_ne hq
      refine ⟨acc, W6.e _ _ h6, ?_, upd G6 D (.lst (acc ++ [z])), acc ++ [z], ds ++ [d], Ex.mut (e.trans (e3.trans e6)) gD, W6.mut h6, upd_same, ?_, ?_, hr⟩
      · have l1 := dpa_len ha
        have l2 := hl _ _ r
        omega
      · exact dpa_app (dpa_mu m6 h6 nls (dpa_ex (e3.trans e6) ha)) (dpa_one (dp_mu m6 h6 nd hz))
      · exact noLists_app nls (by show (noList d && true) = true; rw [nd]; rfl)
    · exact ⟨G5, acc, ds, e.trans (e3.trans e5), W5, e5 _ _ (e3 _ _ hD), dpa_ex (e3.trans e5) ha, nls, hr⟩
  · obtain rfl : i = n := by omega
    exact .inl ⟨S.stop i H eH (Nat.le_refl _), hd G H acc ds e W hD ha nls r⟩
/-! ### texts of drawn letters -/
theorem join_tx : ∀ (ls : List (List Nat)), Txt.join ("" : Str) (ls.map tx) = tx ls.flatten := by
  intro ls
  rw [TL.join_eq]
  induction ls with
  | nil => rfl
  | cons x ls ih =>
    cases ls with
    | nil =>
      show tx x = tx (x ++ [])
      rw [List.append_nil]
    | cons y r =>
      show tx x ++ ("" : Str) ++ Str.join ("" : Str) ((y :: r).map tx) = _
      rw [ih]
      apply sg_inj
      rw [sg_app, sg_app]
      show x ++ [] ++ (y :: r).flatten = _
      rw [List.append_nil]
      rfl
def one1 (c : Nat) : Str := tx [c]
theorem join_ones1 (l : List Nat) : Txt.join ("" : Str) (l.map one1) = tx l := by
  have e : l.map one1 = (l.map fun c => [c]).map tx := by rw [List.map_map]; rfl
  rw [e, join_tx]
  congr 1
  induction l with
  | nil => rfl
  | cons x l ih =>
    rw [List.map_cons, List.flatten_cons, ih (by rw [List.map_map]; rfl)]
    rfl
theorem lens_ones1 (l : List Nat) : ((l.map one1).map (·.length)).sum = l.length := by
  induction l with
  | nil => rfl
  | cons x l ih =>
    rw [List.map_cons, List.map_cons, List.sum_cons, ih, List.length_cons]
    show 1 + _ = _
    omega
/-- [one_of(well, z) for .. in range(m)] -/
theorem lc_letters {K : PySem.W.Frag} {w : Addr} {c m : Nat} {G H : Hp} {z : Str} {g : TG} {te : TE} {vs : List Nat} {σ : L2.St} {D : Addr} {Qd : Hp → Prop} (W : Wt w c G H) (hm : m ≤ 1000) (hc : c ≤ 100000) (np : H D = none)
    (hs : ∀ (i : Nat) (x : V) (c' : Nat) (G2 H2 : Hp) (Y : VK), Ex G G2 → c' ≤ 1000000 → Wt w c' G2 H2 → (∀ c0 H', c0 ∈ sg z → Wt w (c' + 1) G2 H' → Y (.str (tx [c0])) H') → g x (wipe σ vs) H2 fun σ2 H3 => wipe σ2 vs = wipe σ vs ∧ tYes σ2 H3 fun b H4 => if b = true then te σ2 H4 Y else True)
    (hd : ∀ G' H' (l : List Nat), Ex G G' → Wt w (c + m) G' H' → l.length = m → (∀ a ∈ l, a ∈ sg z) → G' D = some (.lst ((l.map one1).map V.str)) → Qd H') : LcGo (Itr 0 m) H g tYes te vs σ D Qd := by
  refine lc_w (K := K) (G0 := G) src_rng (by omega) (fun i => c + i) (fun i ds => ∃ l : List Nat, ds = (l.map one1).map PyData.str ∧ l.length = i ∧ ∀ a ∈ l, a ∈ sg z) W np ⟨[], rfl, rfl, fun _ h => (List.not_mem_nil h).elim⟩ (fun i x G2 H2 ds Y Z hi e W2 it r hy hn => ?_) (fun i ds ⟨l, hl, hl2, _⟩ => by rw [hl, List.length_map, List.length_map]; omega) (fun G' H' acc ds e W' hD ha nls ⟨l, hl, hl2, hl3⟩ => ?_)
  · obtain ⟨l, rfl, hl2, hl3⟩ := r
    have z := hs i x (c + i) G2 H2 Y e (by omega) W2 fun c0 H' hc0 W3 => hy _ (.str (tx [c0])) G2 H' (Ex.refl _) W3 (.str _) rfl ⟨l ++ [c0], by rw [List.map_append, List.map_append]; rfl, by rw [List.length_append, hl2]; rfl, fun a ha => (List.mem_append.mp ha).elim (hl3 a) fun h => by rw [List.mem_singleton.mp h]; exact hc0⟩
    exact z
  · subst hl
    have hs := strs_dpa ha
    subst hs
    exact hd G' H' l e W' hl2 hl3 hD
end My

/-! an own exception class whose __init__ says super().__init__(text) and keeps its argument in a field -/
namespace My
open PySem PySem.Spec PyProof.Rows L2 Evl
/-- the __init__ of the class at D -/
structure SupF (P : Program) (K : PySem.W.Frag) (D fI : Addr) (params : Arguments) (body : List Stmt) (scope : Scope) (fd : FuncData) : Prop where
  fn : ∃ (oc : Value) (od : Option Addr) (osl : Array (Option Value)) (dV kV doc pm : Value) (an : Option Addr) (cda cc : Addr) (ct : Value) (name qual : Str), fd = PySem.W.ksFn name qual params body scope dV kV doc pm an (.ref cda) ct cc ∧ K.lookup fI = some ⟨oc, od, .func fd, osl⟩ ∧ PySem.W.codeIn K (.ref cda) qual = true ∧
    (∃ (ccl : Value) (cdd : Option Addr) (vs : Array Value) (ccs : Array (Option Value)) (file : Str) (tf : Tok), K.lookup cda = some ⟨ccl, cdd, .fields vs, ccs⟩ ∧ vs[2]? = some (.str file tf) ∧ ((P.main.file : Str) == file) = true) ∧
    ∃ (cl : Value) (cld : Option Addr) (csl : Array (Option Value)), K.lookup cc = some ⟨cl, cld, .cell (some (.ref D)), csl⟩
  clsD : ∃ cdD, PySem.W.clsIn K D = some cdD
  sup : PySem.W.nsIn K mainGlobals "super" = some none
  any : PySem.W.nsIn K cStatics "thirdparty.any" = some none
  top : (P.main.scope.names.lookup ("super" : Str)).isSome = false
  kp : PySem.W.keepIn K (.ref fI) = true
/-- a class over it, without __init__ of its own -/
structure ExF (K : PySem.W.Frag) (D C fI : Addr) (fld : Str) : Prop where
  ox : OexC K C
  mro : PySem.W.mroIn K C (.ref D) = some true
  sp : PySem.W.ks_superIn K C D "__init__" = some (some (.builtin "ValueError.__init__"))
  ve : PySem.W.subIn K (.ref C) (.type "ValueError") = some true
  ini : PySem.W.findIn K (.ref C) "__init__" = some (some (.ref fI))
  fty : PySem.W.typeIn K (.ref fI) = some (.type "function")
  fld : PySem.W.findIn K (.ref C) fld = some none
def sp_init (K : PySem.W.Frag) (D fI : Addr) (fld : Str) : Sp := fun vs H Q _ => ∃ (a C : Addr) (y : V), vs = [.ref a, y] ∧ ExF K D C fI fld ∧ H a = some (exo a C none) ∧ ∀ dx, H dx = none → dx ≠ a → Q .non (upd (upd H dx (exd dx [(fld, y)])) a (exo a C (some dx)))
theorem call_mw {P : Program} {w : World} {A : Around} {E : Value → Shared → Prop} {s : Shared} {K : PySem.W.Frag} {u x C t : Addr} {rest : List Value} {Q : Value → Shared → Prop} (kin : K.In s.heap) (ox : OexC K C)
    (hu : s.heap.get? u = some (PySem.W.kxs_mw "ValueError.__init__" x)) (he : s.heap.get? x = some ({ cls := .ref C, dict := none, data := .fields #[.ref t, .none, .none, .none, .bool false, .none] } : Obj)) (hz : rest.length ≤ sizeLine)
    (fin : ∀ h', (∀ b o, b ≠ x → s.heap.get? b = some o → h'.get? b = some o) → (∃ t', h'.get? x = some ({ cls := .ref C, dict := none, data := .fields #[.ref t', .none, .none, .none, .bool false, .none] } : Obj)) → Q .none { s with heap := h' }) :
    wpAny (model P w) A (call (.ref u) rest) Q E s := by
  obtain ⟨nm, q, N, bs, bm, sn, sub, ab, col, dd, k0, k1, k2, k3, k5, hC, hbm⟩ := ox.cls
  obtain ⟨hp, g, dr, tk, os⟩ := s
  have tst : (Value.type "method-wrapper" == Value.type "method" || Value.type "method-wrapper" == Value.type "builtin_function_or_method" || Value.type "method-wrapper" == Value.type "method-wrapper") = true := by decide
  refine wpAny_call (codeAny_of_tree (show wpAny _ A.in1 (callAny (.ref u) ⟨rest, []⟩) _ _ _ from ?_))
  simp only [callAny]
  refine wpAny_bind (wpAny_load hu ?_)
  simp only [PySem.W.kxs_mw, tst, if_true]
  refine PySem.W.KFB.if_so (by decide) (wpAny_bind (PySem.W.check_bound_init PySem.F.excBase_ValueError.toExcCallFacts (kin _ _ hC) he rfl ?_))
  refine wpAny_bind (wpAny_pure (wpAny_pure ⟨PySem.plainId_quiet PySem.F.excBase_ValueError.init.plain _, codeAny_builtin PySem.F.excBase_ValueError.initEntry ?_⟩))
  exact PySem.W.exc_init_tree (cls := .ref C) (t0 := t) (dv := none) (c2 := .none) (c3 := .none) (b4 := .bool false) he hz fun h' kk e' t' => fin h' kk ⟨_, e'⟩
section
variable {P : Program} {w : World} {K : PySem.W.Frag} {mg : Str → Option Value} {base : Heap} {CX : CXT} {D fI : Addr} {params : Arguments} {scope : Scope} {fd : FuncData} {fld lit : Str} {p0 p1 p2 p3 p4 p5 p6 p7 p8 p9 : Pos} {kk : Nat} {ar : Arg} {more : List Arg}
theorem sup_fn {k : Nat} (S : SupF P K D fI params [.Expr (.Call (.Attribute (.Call (.Name "super" p0) [] [] p1) "__init__" p2) [.Constant (.str lit) kk p3] [] p4) p5, .Assign [.Attribute (.Name "self" p6) fld p7] (.Name "value" p8) p9] scope fd)
    (hp : (params.posonlyargs ++ params.args).head? = some ar) (har : ar.arg = "self") (h1 : scope.names.lookup ("self" : Str) = some .local) (h2 : scope.names.lookup ("value" : Str) = some .local) (h3 : scope.names.lookup ("super" : Str) = some .globalImplicit) (h4 : scope.names.lookup ("__class__" : Str) = some .free)
    {pl : Sem Bool} (hcall : ∀ env : Env, env.scope = scope → eval (.Call (.Attribute (.Call (.Name "super" p0) [] [] p1) "__init__" p2) [.Constant (.str lit) kk p3] [] p4) env = (do
      let ov ← attributeBase (.Call (.Name "super" p0) [] [] p1) "__init__" env (eval (.Call (.Name "super" p0) [] [] p1) env)
      standAt p2.atName
      let (g, first) ← holding [ov] (getMethod ov "__init__" pl)
      callWith p4 g first (backTo p4 (starEach [.Constant (.str lit) kk p3] env)) []))
    (hint : ∀ env : Env, env.scope = scope → interactive env = false) (hsw : ∀ env : Env, env.scope = scope → swapsWith (.Call (.Attribute (.Call (.Name "super" p0) [] [] p1) "__init__" p2) [.Constant (.str lit) kk p3] [] p4) none p5.line env = pure false)
    (hsw2 : ∀ env : Env, env.scope = scope → swapsWith (.Name "value" p8) (some (.Attribute (.Name "self" p6) fld p7)) p9.line env = pure false)
    (hcell : ∀ x ∈ scope.names, x.2 ≠ .cell) (hco : scope.isCoroutine = false) (hgen : scope.isGenerator = false) (hk : scope.kind = .function) :
    FnOk P w K mg base CX (k + 1) fI fd ["self", "value"] (sp_init K D fI fld) := by
  refine ⟨fun vs H Q E h => ?_, fun A outer st H args us vs Q E room e0 bind vals sat => ?_⟩
  · obtain ⟨a, C, y, rfl, _⟩ := h
    rfl
  obtain ⟨a, C, y, rfl, F, ha, q⟩ := sat
  obtain ⟨u1, u, rfl, r1, ry⟩ := vals2 vals
  obtain rfl : u1 = Value.ref a := r1
  obtain ⟨oc, od, osl, dV, kV, doc, pm, an, cda, cc, ct, name, qual, rfl, lk, hcd, ⟨ccl, cdd, vc, ccs, file, tf, lcd, hvc, hfile⟩, cl, cld, csl, lcc⟩ := S.fn
  obtain ⟨cdD, hD⟩ := S.clsD
  have kin : K.In st.heap := e0.mod.kin.keeps fun b o e => (e0.bs b o e).1
  have nolim : st.heap.NoLimit := e0.mod.nolimit.keeps fun b o e => (e0.bs b o e).1
  obtain ⟨mb, hmb, hbb⟩ := e0.mod.blt
  obtain ⟨t1, hx0⟩ := exo_at e0.hok ha
  refine ks_codeAny_call_defAt (binds := [("self", .ref a), ("value", u)]) (by have := room.dp; omega) (kin _ _ lk) rfl nolim (PySem.W.codeRec_of kin hcd) rfl bind hcell ?_ (fun h₀ hns hk0 => ?_) hco hgen hk
  · intro x hx
    rcases List.mem_cons.mp hx with rfl | hx
    · exact h1
    · rw [List.mem_singleton.mp hx]
      exact h2
  · have kin0 : K.In h₀ := fun b o e => hk0 b o (kin b o e)
    have nodbg : ∀ z : Str, z ≠ "__name__" → mb z = bootBuiltins z := hbb
    have glob0 : h₀.Ns mainGlobals mg := e0.mod.glob.keeps fun b o e => hk0 b o (e0.bs b o e).1
    have blt0 : h₀.Ns builtinsNs mb := hmb.keeps fun b o e => hk0 b o (e0.bs b o e).1
    have mgs : mg "super" = none := PySem.W.mg_none_of e0.mod.kin e0.mod.glob S.sup
    obtain ⟨oD, hoD, hdD⟩ : ∃ oD, K.lookup D = some oD ∧ oD.data = .cls cdD := by
      unfold PySem.W.clsIn at hD
      split at hD
      · rename_i c0 d0 cd0 sl0 hoo
        cases hD
        exact ⟨_, hoo, rfl⟩
      · cases hD
    have hx1 := hk0 _ _ hx0
    refine ks_wpAt_execs_cons (ks_wpAt_Expr_any (ks_wpAt_MethodCall (ks_wpAt_super_base h3 h4 (by decide) rfl (kin0 _ _ lk) rfl hp rfl (kin0 _ _ lcd) rfl hvc hfile S.top ?_) (hcall _ rfl)) (hint _ rfl) (hsw _ rfl))
    refine PySem.W.ks_loadName_global hk h3 (PySem.Calls.loadGlobal_builtin glob0 mgs blt0 ((hbb _ (by decide)).trans (by decide +kernel)) ⟨rfl, ?_⟩)
    refine wpAny_loadName_free hk h4 rfl ⟨_, kin0 _ _ lcc, rfl⟩ ?_
    rw [har]
    refine wpAny_loadName_local hk h1 hns rfl ?_
    refine ks_wpAny_isType_cls (kin0 _ _ hoD) hdD ⟨rfl, ?_⟩
    refine ks_wpAny_call_super (kin0 _ _ hoD) hdD hx1 rfl (fun c z => nomatch z) (PySem.W.looks_mroIn kin0 F.mro) (fun h1' e1 k1 => ?_)
    have kin1 : K.In h1' := fun b o e => k1 b o (kin0 b o e)
    have hx2 := k1 _ _ hx1
    have inst : PySem.W.InstAt h1' a _ C none := ⟨hx2, rfl, rfl, trivial⟩
    obtain ⟨cd, hcC, hal⟩ : ∃ cd, PySem.W.clsIn K C = some cd ∧ PySem.W.alongIn K "__init__" ((cd.mro.dropWhile (· != .ref D)).drop 1) = some (some (.builtin "ValueError.__init__")) := by
      have z := F.sp
      unfold PySem.W.ks_superIn at z
      cases hc : PySem.W.clsIn K C with
      | none => rw [hc] at z; cases z
      | some cd => rw [hc] at z; exact ⟨cd, rfl, z⟩
    refine PySem.W.kxs_getMethod PySem.W.kxs_ValueError e1 (PySem.W.looks_opaque kin1 S.any) (l₀ := cd.mro) ((PySem.W.looks_clsIn kin1 hcC).andThen .now) rfl kin1 hal (inst.type.andThen (PySem.W.looks_subIn kin1 F.ve)) (PySem.W.ks_ne kin1 inst hcC) (by decide) ?_
    have k2 : ∀ b o, h1'.get? b = some o → (h1'.push (PySem.W.kxs_mw "ValueError.__init__" a)).get? b = some o := fun b o e => Heap.get?_push_of_some _ e
    have hu2 : (h1'.push (PySem.W.kxs_mw "ValueError.__init__" a)).get? h1'.objs.size = some (PySem.W.kxs_mw "ValueError.__init__" a) := Heap.get?_push_size _ rfl
    have hx3 := k2 _ _ hx2
    have kin2 : K.In (h1'.push (PySem.W.kxs_mw "ValueError.__init__" a)) := fun b o e => k2 b o (kin1 b o e)
    have hns2 := hns.keeps fun b o e => k2 b o (k1 b o e)
    have kAll : ∀ b o, st.heap.get? b = some o → (h1'.push (PySem.W.kxs_mw "ValueError.__init__" a)).get? b = some o := fun b o e => k2 b o (k1 b o (hk0 b o e))
    refine PySem.W.kxs_callWith (i := "ValueError.__init__") (x := a) (by rfl) (PySem.Calls.evalArgs_plain (PySem.Calls.spliced_cons (wpAny_Constant_str (k := kk) (pos := p3) (PySem.Calls.spliced_nil ⟨hu2, ?_⟩))))
    generalize h1'.push (PySem.W.kxs_mw "ValueError.__init__" a) = h2' at *
    refine call_mw kin2 F.ox hu2 hx3 (by show 1 ≤ sizeLine; decide) (fun h3 k3 hx4 => ?_)
    obtain ⟨t4, hx4⟩ := hx4
    have aL : st.heap.objs.size ≠ a := (Nat.ne_of_lt (Heap.lt_size hx0)).symm
    obtain ⟨nm, qn, N, bs, bm, sn, sub, ab, col, dd, g0, g1, g2, g3, g5, hC, hbm⟩ := F.ox.cls
    have hcl : PySem.W.clsIn K C = some { name := nm, bases := bs, mro := .ref C :: bm, ns := N, qualname := qn, hasDict := true, slotNames := sn, subclasses := sub, abstract := ab, collection := col, hasDel := false } := by unfold PySem.W.clsIn; rw [hC] <;> rfl
    have aK : ∀ b o, K.lookup b = some o → b ≠ a := fun b o e z => by
      have z1 := kin b o e
      rw [z, hx0] at z1
      have z2 := e0.mod.kin b o e
      have z3 := (e0.bs b o z2).2
      rw [z, ha] at z3
      cases z3
    have kin3 : K.In h3 := fun b o e => k3 b o (aK b o e) (kin2 b o e)
    obtain ⟨oL, esL, epL, hoL, rL⟩ := hns2
    have hns3 : h3.Ns st.heap.objs.size _ := ⟨oL, esL, epL, k3 _ _ aL hoL, rL⟩
    refine ks_wpAt_execs_cons (ks_wpAt_Assign_Attr (wpAt_of_wpAny (wpAny_Name (wpAny_loadName_local hk h2 hns3 rfl (wpAny_Name (wpAny_loadName_local hk h1 hns3 rfl ?_) (by decide))) (by decide))) (hsw2 _ rfl))
    refine PySem.W.set_plain kin3 (od := none) ⟨hx4, rfl, rfl, trivial⟩ F.ox.sa ?_
    refine PySem.HandSPX.exc_osa kin3 hx4 hcl (show PySem.HandSPX.refsVE (.ref C :: bm) = true from hbm) rfl F.fld (fun h5 tk5 dx k5 dn dne hx5 hn5 => ?_)
    refine wpAt_of_wpAny (wpAny_execs_nil ?_)
    have kEnd : ∀ b o, b ≠ a → st.heap.get? b = some o → h5.get? b = some o := fun b o hb e => k5 b o hb (k3 b o hb (kAll b o e))
    have dx0 : st.heap.get? dx = none := by
      cases z : st.heap.get? dx with
      | none => rfl
      | some o => exact absurd (Heap.lt_size (k3 dx o dne (kAll dx o z))) (Nat.not_lt.mpr dn)
    have Hdx : H dx = none := e0.hok.gone dx0
    have offA : ∀ {b : Addr}, H b = none → b ≠ a := fun {b} n z => by
      rw [z, ha] at n
      cases n
    have offD : ∀ {b : Addr} {o : Obj}, st.heap.get? b = some o → b ≠ dx := fun {b o} e z => by
      rw [z, dx0] at e
      cases e
    have fin : ∀ s' : Shared, s'.heap = h5 → s'.gens = st.gens → s'.os = st.os → CE outer P w H st Q .none s' := fun s' es eg eo => ?_
    · exact fin _ rfl rfl rfl
    refine ⟨V.non, upd (upd H dx (exd dx [(fld, y)])) a (exo a C (some dx)), eo, by rw [eg]; exact e0.bare, ?_, ?_, rfl, q dx Hdx dne⟩
    · rw [es]
      exact ⟨fun b o e n _ _ => kEnd b o (offA n) e, fun b o e n _ _ => ⟨o.slots, kEnd b o (offA n) e⟩, fun b o e n _ => by rw [upd_ne (offA n), upd_ne (offD e)]; exact n,
      fun b o e _ => (Decidable.em (b = a)).elim (fun z => z ▸ ⟨_, hx5⟩) fun z => ⟨o, kEnd b o z e⟩, fun b xs e => by rw [upd_ne (L2.at_ne ha e exo_tup), upd_ne (ne_of_none e Hdx)]; exact e, fun b o v e => by rw [upd_ne (L2.at_ne ha e exo_frz), upd_ne (ne_of_none e Hdx)]; exact e,
      fun b ps e => ⟨#[], by rw [upd_ne (L2.at_ne ha e exo_tbl), upd_ne (ne_of_none e Hdx), e]; simp⟩⟩
    rw [es]
    intro b o e
    by_cases hb : b = a
    · subst hb
      rw [upd_same] at e
      cases e
      exact exo_ok hx5
    · rw [upd_ne hb] at e
      by_cases hd : b = dx
      · subst hd
        rw [upd_same] at e
        cases e
        exact exd_ok hn5 (relO_put (fs := []) ry fun g => True.intro)
      · rw [upd_ne hd] at e
        have offO : ∀ {c : Addr}, H c = some (.own b) → c ≠ a := fun {c} hc => L2.at_ne ha hc exo_own
        exact (e0.hok b o e).stay (fun c v hc z => kEnd c v (hc.elim (fun z2 => by rw [z2]; exact hb) offO) z) (fun c hc => by rw [upd_ne (offO hc), upd_ne (ne_of_none hc Hdx)]; exact hc) (fun c xs hc => by rw [upd_ne (L2.at_ne ha hc exo_tup), upd_ne (ne_of_none hc Hdx)]; exact hc)
end
end My

/-! an exception that is caught, kept as a value, its field read behind the suite -/
namespace My
open PySem PySem.Spec PyProof.Rows L2 Evl
/-- at a: a caught exception of the class cls, its dict at d -/
def exK (a : Addr) (cls : Value) (d : Option Addr) : HO := .ext fun h => ∃ (oe : Obj) (vs : Array Value), h.get? a = some oe ∧ Zc cls d oe ∧ oe.data = .fields vs
theorem exK_ok {P : Program} {w : World} {H : Hp} {h : Heap} {a : Addr} {cls : Value} {d : Option Addr} {oe : Obj} {vs : Array Value} (e : h.get? a = some oe) (z : Zc cls d oe) (f : oe.data = .fields vs) : ObjOk P w H h a (exK a cls d) :=
  ⟨⟨oe, vs, e, z, f⟩, ⟨oe, e⟩, fun g1 g2 ⟨o, us, e1, z1, f1⟩ k => ⟨o, us, k _ e1, z1, f1⟩⟩
theorem exK_at {P : Program} {w : World} {H : Hp} {h : Heap} {a : Addr} {cls : Value} {d : Option Addr} (hok : HOk P w H h) (e : H a = some (exK a cls d)) : ∃ (oe : Obj) (vs : Array Value), h.get? a = some oe ∧ Zc cls d oe ∧ oe.data = .fields vs := by
  have z : ObjOk P w H h a (.ext fun h => ∃ (oe : Obj) (vs : Array Value), h.get? a = some oe ∧ Zc cls d oe ∧ oe.data = .fields vs) := hok a _ e
  exact z.1
section
variable {X : Cx} {pins : List (Addr × Obj)} {σ : L2.St} {H : Hp} {s : Shared}
/-- it is tracked from here on -/
theorem inv_keep {a : Addr} {oe : Obj} {vs : Array Value} {cls : Value} {d : Option Addr} (I : Inv X ((a, oe) :: pins) σ H s) (z : Zc cls d oe) (f : oe.data = .fields vs) (new : X.s_0.heap.get? a = none) (apart : ∀ p ∈ X.pn ++ pins, p.1 ≠ a) :
    Inv X pins σ (upd H a (exK a cls d)) s := by
  obtain ⟨at1, na, nL, nF, _⟩ := I.pin (a, oe) (List.mem_append_right _ (List.mem_cons_self ..))
  have off : ∀ {b : Addr} {o : HO}, H b = some o → b ≠ a := fun e => ne_of_none e na
  refine ⟨I.ok, I.os, I.bare, ⟨I.base.keep, I.base.slot, fun b o e n hx => ?_, I.base.there, fun b xs e => ?_, fun b o v e => ?_, fun b ps e => ?_⟩, I.loc, I.cell, ?_, fun x c e => ?_, fun p hp => ?_, fun b o e => ?_, I.len⟩
  · rw [upd_ne fun q => by rw [q, new] at e; cases e]
    exact I.base.free b o e n hx
  · have q := I.base.tups b xs e
    rw [upd_ne (off q)]
    exact q
  · have q := I.base.frzs b o v e
    rw [upd_ne (off q)]
    exact q
  · obtain ⟨more, q⟩ := I.base.tbls b ps e
    exact ⟨more, by rw [upd_ne (off q)]; exact q⟩
  · rw [upd_ne nL.symm]
    exact I.free
  · have hc := I.freeC x c e
    have ca : c ≠ a := fun q => by
      obtain ⟨v, o, e1, e2⟩ := I.cell x c e
      rw [q, at1] at e1
      cases e1
      rw [f] at e2
      cases e2
    rw [upd_ne ca]
    exact hc
  · have hp2 : p ∈ X.pn ++ (a, oe) :: pins := (List.mem_append.mp hp).elim (fun q => List.mem_append_left _ q) fun q => List.mem_append_right _ (List.mem_cons_of_mem _ q)
    obtain ⟨h1, h2, h3⟩ := I.pin p hp2
    exact ⟨h1, by rw [upd_ne (apart p hp)]; exact h2, h3⟩
  · by_cases q : b = a
    · subst q
      rw [upd_same] at e
      cases e
      exact exK_ok at1 z f
    · rw [upd_ne q] at e
      exact (I.hok b o e).stay (fun c v _ y => y) (fun c y => by rw [upd_ne (off y)]; exact y) fun c xs y => by rw [upd_ne (off y)]; exact y
end
/-- what 'except x as n: suite' wishes of an exception of the body, the exception kept -/
def wKp (K : PySem.W.Frag) (c : Value) (i : Nat) (ts : Addr → Value → Option Addr → TS) (Wout : WX) (D : Ends) : WX := fun cls d σ H =>
  ∃ b, PySem.W.exmOne K cls c = some b ∧ (b = false → Wout cls d σ H) ∧ (b = true → ∀ a, H a = none → ts a cls d { nx := fun σ1 H1 => D.nx (σ1.set i none) (upd H1 a (exK a cls d)), rt := fun v H1 => D.rt v (upd H1 a (exK a cls d)), bk := fun σ1 H1 => D.bk (σ1.set i none) (upd H1 a (exK a cls d)), ct := fun σ1 H1 => D.ct (σ1.set i none) (upd H1 a (exK a cls d)) } (σ.set i (some (.ref a))) H)
section
variable {X : Cx} {x n : Str} {c : Value} {i : Nat} {body suite : List Stmt} {b0 : Stmt} {np pos pos2 : Pos} {tb : WX → TS} {ts : Addr → Value → Option Addr → TS} {Wout : WX}
theorem ps_try_keep (stk : X.stack = X.env :: X.outer) (frm : X.env.frame = some X.env.locals) (nd : X.N.Nodup) (hi : X.N[i]? = some n) (loc : X.env.kindOf n = some .local) (nex : X.ex = []) (hc : Names X x c) (tk : Takes X Wout)
    (hb : ∀ (W : WX) (pn : List (Addr × Obj)) (xe : Value → Shared → Prop), Takes (X.tr pn xe) W → PassesOwn (model X.prog X.w) X.A X.env xe → PSs (X.tr pn xe) body (tb W))
    (su : ∀ (a : Addr) (oe : Obj) (cls : Value) (d : Option Addr) (pn : List (Addr × Obj)), Zc cls d oe → (∃ vs, oe.data = .fields vs) → PSs (X.suite a ((a, oe) :: pn)) (b0 :: suite) (ts a cls d)) :
    PS X (.Try body [.ExceptHandler (some (.Name x np)) (some n) (b0 :: suite) pos2] [] [] pos) (fun D σ H => tb (wKp X.K c i ts Wout D) D σ H) := by
  constructor
  intro pins s σ H D I sat
  have okX := I.ok
  have frames : X.A.frames = some (X.env :: X.outer) := by rw [okX.frames, stk]
  have run := (hb (wKp X.K c i ts Wout D) (X.pn ++ pins) (fun e s1 => wpAny (model X.prog X.w) X.A (noteFrame e X.env) (fun _ s2 => wpAny (model X.prog X.w) X.A (setFlight e none) (fun _ s3 => wpAny (model X.prog X.w) X.A (handleBy e X.env [.ExceptHandler (some (.Name x np)) (some n) (b0 :: suite) pos2]) (SP X pins D) X.xe s3) X.xe s2) X.xe s1) (fun u s' air => ?_) PassesOwn.looking).run [] s σ H D (I.toTry _) sat
  · refine wpAny_Try_except (wpAny_mono run (fun f s1 got => ?_) fun _ _ z => z)
    cases f with
    | next =>
      obtain ⟨σ1, H1, J1, q1⟩ := got
      exact wpAny_execs_nil ⟨σ1, H1, J1.ofTry okX, q1⟩
    | ret u =>
      obtain ⟨v, σ1, H1, J1, rv, q1⟩ := got
      exact ⟨v, σ1, H1, J1.ofTry okX, rv, q1⟩
    | brk =>
      obtain ⟨σ1, H1, J1, q1⟩ := got
      exact ⟨σ1, H1, J1.ofTry okX, q1⟩
    | cont =>
      obtain ⟨σ1, H1, J1, q1⟩ := got
      exact ⟨σ1, H1, J1.ofTry okX, q1⟩
  obtain ⟨a, B, sI, pins1, σ1, H1, cls, d, rfl, JI, below, upTo, sky, na, eos, bare, b, hexm, hout, hin⟩ := air
  have J0 : Inv X pins σ1 H1 sI := JI.ofTry okX
  have sky2 : Sky B (X.env :: X.outer) a (Zc cls d) X.env.locals s'.heap := by rw [← stk]; exact sky
  show wpAny (model X.prog X.w) X.A (noteFrame (.ref a) X.env) _ _ _
  refine Sky.land Zc.steady frames frm sky2 fun g3 fly3 up3 => ?_
  have J3 : Inv X pins σ1 H1 ⟨g3, s'.gens, s'.drawn, s'.toks, s'.os⟩ := J0.landed below fly3.1 (upTo.trans up3) eos bare
  obtain ⟨o3, v3, at3, z3, f3⟩ := fly3.there
  have noFr : a ∉ frs (X.env :: X.outer) := fun hm => by
    obtain ⟨_, o', e', hnf⟩ := fly3.2.2.1.mem hm
    rw [at3] at e'
    cases e'
    exact hnf _ f3
  have notL : a ≠ X.env.locals := fun z => noFr (List.mem_filterMap.mpr ⟨X.env, List.mem_cons_self, by rw [frm, z]⟩)
  have notF : a ∉ X.fs := fun hm => by
    obtain ⟨e, he, q⟩ := List.mem_filterMap.mp hm
    exact noFr (List.mem_filterMap.mpr ⟨e, List.mem_cons_of_mem _ he, q⟩)
  have noB : B.get? a = none := fly3.2.1
  have noI : sI.heap.get? a = none := by
    cases z : sI.heap.get? a with
    | none => rfl
    | some o =>
      have y := below a o z (by rw [stk]; exact noFr)
      rw [noB] at y
      cases y
  have no0 : X.s_0.heap.get? a = none := by
    cases z : X.s_0.heap.get? a with
    | none => rfl
    | some o =>
      obtain ⟨o', y⟩ := J0.base.there a o z (by rw [nex]; exact List.not_mem_nil)
      rw [noI] at y
      cases y
  have apart : ∀ p ∈ X.pn ++ pins, p.1 ≠ a := fun p hp z => by
    have y := (J0.pin p hp).1
    rw [z, noI] at y
    cases y
  have S3 := J3.suite at3 f3 na notL notF
  refine wpAny_handleBy_cons (codeAny_handlers_test ?_) (fun q => by cases q)
  have clsOf : PySem.W.Looks (model X.prog X.w) g3 (typeOf (.ref a)) cls := fun A Q E s k q => wpAny_typeOf_ref (k _ _ at3) (by rw [z3.1]; exact q)
  have match1 := PySem.W.exm_one (M := model X.prog X.w) (J3.kIn) clsOf hexm
  have named : ∀ {Q : Value → Shared → Prop} {E : Value → Shared → Prop}, Q c ⟨g3, s'.gens, s'.drawn, s'.toks, s'.os⟩ → wpAny (model X.prog X.w) (X.A.mark (some (.ref a))) (eval (.Name x np) X.env) Q E ⟨g3, s'.gens, s'.drawn, s'.toks, s'.os⟩ := fun {Q E} q => by
    obtain ⟨hg, hdb, hm | ⟨hm, hv, hn⟩⟩ := hc
    · exact ld_glob (X := X.suite a ((a, o3) :: (X.pn ++ pins))) S3 hg hm q hdb
    · exact ld_blt (X := X.suite a ((a, o3) :: (X.pn ++ pins))) S3 hg hm hv q hn hdb
  refine named (match1.here ?_)
  cases b with
  | false =>
    show wpAny _ X.A (handleBy (.ref a) X.env []) _ _ _
    refine wpAny_handleBy_nil ?_
    obtain ⟨_, _, _, oe, vs, T, oT, _, he, _, hd, hT, _⟩ := id fly3
    unfold PySem.passOn
    refine wpAny_bind (wpAny_field he hd hT ?_)
    rw [if_neg (show ¬ ((Value.ref T == Value.none) = true) from by simp)]
    have onward : wpAny (model X.prog X.w) X.A (setFlight (.ref a) X.env.frame) (fun _ s4 => wpAny (model X.prog X.w) X.A (throw (.ref a) : Sem Flow) (SP X pins D) X.xe s4) X.xe ⟨g3, s'.gens, s'.drawn, s'.toks, s'.os⟩ := by
      rw [frm]
      exact HandSPX.setFlight_upZ fly3 fun g4 held4 up4 => wpAny_throw (tk _ _ ⟨a, B, sI, pins, σ1, H1, cls, d, rfl, J0, below, (upTo.trans up3).trans up4, .inr (.inr (by rw [stk]; exact held4)), na, eos, bare, hout rfl⟩)
    first
      | exact wpAny_bind onward
      | exact wpAny_bind (wpAny_pure (wpAny_bind onward))
  | true =>
    refine codeAny_handlers_suite_as (HandSPX.lands_againZ fly3 fun g4 fly4 up4 => ?_)
    have J4 : Inv X pins σ1 H1 ⟨g4, s'.gens, s'.drawn, s'.toks, s'.os⟩ := J0.landed below fly4.1 ((upTo.trans up3).trans up4) eos bare
    obtain ⟨o4, v4, at4, z4, f4⟩ := fly4.there
    have S4 := J4.suite at4 f4 na notL notF
    refine store_ok (X := X.suite a ((a, o4) :: (X.pn ++ pins))) (v := .ref a) S4 nd hi (.inl loc) rfl (fun s5 S5 => ?_) (.inr loc)
    have stop : ∀ {σ6 : L2.St} {H6 : Hp} {s6 : Shared} {Q : Shared → Prop}, Inv (X.suite a ((a, o4) :: (X.pn ++ pins))) [] σ6 H6 s6 → (∀ s7, Inv X pins (σ6.set i none) (upd H6 a (exK a cls d)) s7 → Q s7) → wpAny (model X.prog X.w) X.A (do bindName X.env n .none; unbindBehindTheSuite X.env n pos2) (fun _ s7 => Q s7) X.xe s6 := fun {σ6 H6 s6 Q} S6 hq => by
      have here := S6.pin (a, o4) (List.mem_append_left _ (List.mem_cons_self ..))
      have J6 : Inv X ((a, o4) :: pins) σ6 H6 s6 := (S6.unsuite okX).pins_of fun p hp => (List.mem_cons.mp hp).elim (fun e => by rw [e]; exact here) fun h => (S6.unsuite okX).pin p (List.mem_append_right _ h)
      exact gone_ok J6 nd hi loc fun s7 J7 => hq s7 (inv_keep J7 z4 f4 no0 apart)
    refine wpAny_mono ((su a o4 cls d (X.pn ++ pins) z4 ⟨_, f4⟩).run [] s5 _ H1 _ S5 (hin rfl a na)) (fun f s6 got => ?_) (fun _ _ z => z.elim)
    cases f with
    | next =>
      obtain ⟨σ6, H6, S6, q6⟩ := got
      exact stop S6 fun s7 J7 => ⟨_, _, J7, q6⟩
    | ret u =>
      obtain ⟨v6, σ6, H6, S6, r6, q6⟩ := got
      exact stop S6 fun s7 J7 => ⟨_, _, _, J7, r6, q6⟩
    | brk =>
      obtain ⟨σ6, H6, S6, q6⟩ := got
      exact stop S6 fun s7 J7 => ⟨_, _, J7, q6⟩
    | cont =>
      obtain ⟨σ6, H6, S6, q6⟩ := got
      exact stop S6 fun s7 J7 => ⟨_, _, J7, q6⟩
end
/-- an exception that nothing wishes -/
theorem takesF {X : Cx} : Takes X (fun _ _ _ _ => False) := fun u s1 air => by
  obtain ⟨_, _, _, _, _, _, _, _, _, _, _, _, _, _, _, _, bad⟩ := air
  exact bad.elim
section
variable {X : Cx} {CX : CXT} {k : Nat} {x : Str} {ps : List Str} {sp : Sp} {E : L2.St → XK} {p pos : Pos} {e : Expr} {es : List Expr} {t : TA}
theorem run_gS {f : Addr} {fd : FuncData} {pins : List (Addr × Obj)} {σ : L2.St} {H : Hp} {st : Shared} {Q : VK} {us : List Value} {vs : List V} (F : FnG X.prog X.w X.K X.mg X.base CX k f fd ps sp) (hg : X.A.guards = some []) (hr : Room k X.A) (hb : Binds X.K fd ps [])
    (hx : PassesAt CX X σ (E σ)) (I : Inv X pins σ H st) (r : Vals vs us) (h : sp vs H Q (E σ)) : wpAny (model X.prog X.w) X.A (call (.ref f) us) (EP X pins σ Q) X.xe st := by
  have hn : (us ++ []).length = ps.length := by rw [List.append_nil, ← r.length]; exact F.len _ _ _ _ h
  have hbt : BindsTo st fd ⟨us, []⟩ (ps.zip us) := by
    have z := hb st us I.kIn hn
    rw [List.append_nil] at z
    exact z
  refine wpAny_call (codeAny_mono (F.run X.A X.stack st H ⟨us, []⟩ us vs Q (E σ) hg hr I.env0 hbt r h) fun res s2 hq => ?_)
  cases res with
  | error err => exact hx pins H st err s2 I hq
  | ok fl =>
    cases fl with
    | ret u => exact I.after hq
    | next => exact hq.elim
    | brk => exact hq.elim
    | cont => exact hq.elim
/-- f(e, ..) whose exceptions are taken as the slots stand -/
def tClS (sp : Sp) (E : L2.St → XK) (t : TA) : TE := fun σ H Q => t σ H fun vs H1 => sp vs H1 Q (E σ)
theorem pe_callXS (G : Ok X.prog X.w X.K X.mg X.base CX k x ps sp) (hgd : X.A.guards = some []) (hr : Room k X.A) (hx : ∀ σ, PassesAt CX X σ (E σ)) (ha : PA X (e :: es) t) (hg : Gl X x := by rfl)
    (hdb : (x == ("__debug__" : Str)) = false := by decide) (he : starEach (e :: es) X.env = (false, eval e X.env) :: starEach es X.env := by rfl) (hpl : (backTo pos (starEach es X.env)).any (·.1) = false := by rfl) :
    PE X (.Call (.Name x p) (e :: es) [] pos) (tClS sp E t) := by
  obtain ⟨f, fd, F, hb, hm, hk, _⟩ := G
  refine ⟨fun pins st σ H Q I h => ?_⟩
  refine wpAny_Call_Name_kw (ld_glob I hg hm ?_ hdb)
  refine PySem.W.callWith_K (h₀ := X.base) I.ok.mod.kin hk (thn (ha.run pos pins st σ H _ I h) fun us s2 ⟨vs, H2, I2, rv, q⟩ => ⟨I2.kIn, run_gS F hgd hr hb (hx σ) I2 rv q⟩) he hpl
end
/-- e.f of such an exception -/
def tKf (K : PySem.W.Frag) (f : Str) (te : TE) : TE := fun σ H Q => te σ H fun x H1 => ∃ (a C dd : Addr) (fs : List (Str × V)) (v : V), x = .ref a ∧ H1 a = some (exK a (.ref C) (some dd)) ∧ H1 dd = some (.xd fs) ∧ fs.lookup f = some v ∧ XfC K C ∧ PySem.W.findIn K (.ref C) f = some none ∧ Q v H1
theorem pe_kf {X : Cx} {e : Expr} {te : TE} {pos : Pos} {f : Str} (he : PE X e te) (hb : attributeBase e f X.env (eval e X.env) = eval e X.env := by rfl) : PE X (.Attribute e f pos) (tKf X.K f te) := by
  constructor
  intro pins s σ H Q I sat
  refine attr_of hb (thn (he.run pins s σ H _ I sat) fun u s1 got => ?_)
  obtain ⟨x, H1, I1, rx, a, C, dd, fs, v, rfl, ka, kd, hl, T, hno, q⟩ := got
  obtain rfl : u = Value.ref a := rx
  obtain ⟨oe, vs, at1, z1, f1⟩ := exK_at I1.hok ka
  have dict : ObjOk X.prog X.w H1 s1.heap dd (.xd fs) := I1.hok dd _ kd
  obtain ⟨mA, hns, hr⟩ := dict
  obtain ⟨od, ho, look⟩ := lookIn_ns hns
  obtain ⟨u, hu, ru⟩ := RelO.some_of (v := v) (o := mA f) (by rw [← hl]; exact hr f)
  have inst : PySem.W.InstAt s1.heap a oe C (some od) := ⟨at1, z1.1, by unfold PySem.W.notCls; rw [f1] <;> rfl, by rw [z1.2]; exact ho⟩
  exact HandSPX.exc_get I1.kIn inst T.ga T.gg T.exC (PySem.W.findObj_own T.hdC hno rfl (by rw [look, hu])) (handed_of ru) ⟨v, H1, I1.tok _, ru, q⟩
end My

/-! the written part's facts of own exceptions, observed behind the top -/
namespace My
open PySem PySem.Spec PyProof.Rows L2 Evl
theorem band {a b : Bool} (h : (a && b) = true) : a = true ∧ b = true := Bool.and_eq_true_iff.mp h
/-! ### the class -/
def oexB (K : PySem.W.Frag) (C : Addr) : Bool := match K.lookup C with
  | some ⟨.type t, _, .cls cd, sl⟩ => (match cd.mro, sl.toList with
    | .ref C' :: bm, [_, _, _, _, some (.builtin n), _] => decide (t = "type") && (decide (C' = C) && (decide (n = "ValueError.__new__") && (cd.hasDict && ((!cd.hasDel) && PySem.HandSPX.refsVE bm))))
    | _, _ => false)
  | _ => false
theorem oexB_ok {K : PySem.W.Frag} {C : Addr} (h : oexB K C = true) : ∃ nm q N bs bm sn sub ab col dd k0 k1 k2 k3 k5, K.lookup C = some (excClassObj nm q C N bs bm true sn sub ab col dd k0 k1 k2 k3 k5 "ValueError.__new__") ∧ PySem.HandSPX.refsVE bm = true := by
  unfold oexB at h
  split at h
  · rename_i t dd cd sl ho
    split at h
    · rename_i C' bm k0 k1 k2 k3 n k5 hm hs
      obtain ⟨e1, h1⟩ := band h
      obtain ⟨e2, h2⟩ := band h1
      obtain ⟨e3, h3⟩ := band h2
      obtain ⟨e4, h4⟩ := band h3
      obtain ⟨e5, h5⟩ := band h4
      obtain rfl := of_decide_eq_true e1
      obtain rfl := of_decide_eq_true e2
      obtain rfl := of_decide_eq_true e3
      obtain ⟨nm, bs, mro, ns, qn, hd, sn, sub, ab, col, del⟩ := cd
      dsimp only at hm e4 e5
      rw [Bool.not_eq_true'] at e5
      subst hm e4 e5
      have hsl : sl = #[k0, k1, k2, k3, some (.builtin "ValueError.__new__"), k5] := by
        obtain ⟨l⟩ := sl
        simp only at hs
        rw [hs]
      subst hsl
      exact ⟨nm, qn, ns, bs, bm, sn, sub, ab, col, dd, k0, k1, k2, k3, k5, ho, h5⟩
    · cases h
  · cases h
def exfB (K : PySem.W.Frag) (D C fI : Addr) (fld : Str) : Bool :=
  oexB K C && (He.eqO (PySem.W.findIn K (.ref C) "__setattr__") (some (some (.builtin "object.__setattr__"))) && (decide (PySem.W.subIn K (.ref C) (.type "BaseException") = some true) && (decide (PySem.W.typeIn K (.ref C) = some (.type "type")) && (PySem.W.keepIn K (.ref C) &&
  (decide (PySem.W.mroIn K C (.ref D) = some true) && (He.eqO (PySem.W.ks_superIn K C D "__init__") (some (some (.builtin "ValueError.__init__"))) && (decide (PySem.W.subIn K (.ref C) (.type "ValueError") = some true) && (He.eqO (PySem.W.findIn K (.ref C) "__init__") (some (some (.ref fI))) &&
  (decide (PySem.W.typeIn K (.ref fI) = some (.type "function")) && (He.eqO (PySem.W.findIn K (.ref C) fld) (some none) && xfB K C))))))))))
theorem exfB_ok {K : PySem.W.Frag} {D C fI : Addr} {fld : Str} (h : exfB K D C fI fld = true) : ExF K D C fI fld ∧ XfC K C := by
  obtain ⟨c1, h⟩ := band h
  obtain ⟨c2, h⟩ := band h
  obtain ⟨c3, h⟩ := band h
  obtain ⟨c4, h⟩ := band h
  obtain ⟨c5, h⟩ := band h
  obtain ⟨c6, h⟩ := band h
  obtain ⟨c7, h⟩ := band h
  obtain ⟨c8, h⟩ := band h
  obtain ⟨c9, h⟩ := band h
  obtain ⟨c10, h⟩ := band h
  obtain ⟨c11, c12⟩ := band h
  exact ⟨⟨⟨oexB_ok c1, He.eqO_ok c2, of_decide_eq_true c3, of_decide_eq_true c4, c5⟩, of_decide_eq_true c6, He.eqO_ok c7, of_decide_eq_true c8, He.eqO_ok c9, of_decide_eq_true c10, He.eqO_ok c11⟩, xfB_ok c12⟩
/-- what the program is to say -/
def FileIs (P : Program) (file : Str) : Prop := P.main.file = file ∧ (P.main.scope.names.lookup ("super" : Str)).isSome = false
/-! ### its __init__ -/
/-- the base class, its __init__, the classes over it -/
structure XSp where
  d : Str
  nm : Str
  qual : Str
  params : Arguments
  body : List Stmt
  scope : Scope
  file : Str
  cls : List Str
  fld : Str
abbrev FnX : Type := Option (Str × Str × Arguments × FuncBody × Scope × Addr × Addr)
def xD (K : PySem.W.Frag) (x : XSp) : Addr := He.ga K x.d
def xI (K : PySem.W.Frag) (x : XSp) : Addr := He.ma K (xD K x) "__init__"
def fnXo (K : PySem.W.Frag) (x : XSp) : FnX := match K.lookup (xI K x) with
  | some ⟨_, _, .func fd, _⟩ => some (fd.name, fd.qualname, fd.params, fd.body, fd.scope, fd.globals, fd.builtins)
  | _ => none
def XSp.val (x : XSp) : FnX := some (x.nm, x.qual, x.params, .stmts x.body, x.scope, mainGlobals, builtinsNs)
def fileB (K : PySem.W.Frag) (c : Value) (file : Str) : Bool := match c with
  | .ref cda => (match K.lookup cda with
    | some ⟨_, _, .fields vs, _⟩ => (match (vs[2]? : Option Value) with
      | some (.str f _) => decide (f = file)
      | _ => false)
    | _ => false)
  | _ => false
theorem fileB_ok {K : PySem.W.Frag} {c : Value} {file : Str} (h : fileB K c file = true) : ∃ cda ccl cdd vs ccs tf, c = .ref cda ∧ K.lookup cda = some ⟨ccl, cdd, .fields vs, ccs⟩ ∧ vs[2]? = some (.str file tf) := by
  unfold fileB at h
  split at h
  · split at h
    · rename_i e1
      split at h
      · rename_i e2
        obtain rfl := of_decide_eq_true h
        exact ⟨_, _, _, _, _, _, rfl, e1, e2⟩
      · cases h
    · cases h
  · cases h
def cellB (K : PySem.W.Frag) (cl : List (Str × Addr)) (D : Addr) : Bool := match cl with
  | [(n, cc)] => decide (n = "__class__") && (match K.lookup cc with
    | some ⟨_, _, .cell (some (.ref E)), _⟩ => decide (E = D)
    | _ => false)
  | _ => false
theorem cellB_ok {K : PySem.W.Frag} {cl : List (Str × Addr)} {D : Addr} (h : cellB K cl D = true) : ∃ cc c d sl, cl = [(("__class__" : Str), cc)] ∧ K.lookup cc = some ⟨c, d, .cell (some (.ref D)), sl⟩ := by
  unfold cellB at h
  split at h
  · obtain ⟨e1, h⟩ := band h
    obtain rfl := of_decide_eq_true e1
    split at h
    · rename_i e2
      obtain rfl := of_decide_eq_true h
      exact ⟨_, _, _, _, rfl, e2⟩
    · cases h
  · cases h
def noneB : Value → Bool
  | .none => true
  | _ => false
theorem noneB_ok {v : Value} (h : noneB v = true) : v = .none := by
  cases v <;> first | rfl | cases h
def iniB (K : PySem.W.Frag) (x : XSp) : Bool := (match K.lookup (xI K x) with
  | some ⟨_, _, .func fd, _⟩ => PySem.W.codeIn K fd.code x.qual && (fileB K fd.code x.file && (cellB K fd.closure (xD K x) && noneB fd.defaults))
  | _ => false) && ((PySem.W.clsIn K (xD K x)).isSome && (He.eqO (PySem.W.nsIn K mainGlobals "super") (some none) && (He.eqO (PySem.W.nsIn K cStatics "thirdparty.any") (some none) && PySem.W.keepIn K (.ref (xI K x)))))
def xsB (K : PySem.W.Frag) (x : XSp) : Bool := iniB K x && x.cls.all fun n => He.eqO (PySem.W.nsIn K mainGlobals n) (some (some (.ref (He.ga K n)))) && (exfB K (xD K x) (He.ga K n) (xI K x) x.fld && decide (PySem.W.exmOne K (.ref (He.ga K n)) (.ref (He.ga K n)) = some true))
/-- a class over the base, by its name -/
def ExAt (K : PySem.W.Frag) (mg : Str → Option Value) (x : XSp) (n : Str) : Prop := ∃ C, mg n = some (.ref C) ∧ ExF K (xD K x) C (xI K x) x.fld ∧ XfC K C ∧ PySem.W.exmOne K (.ref C) (.ref C) = some true
/-- the base's __init__ -/
def IniAt (K : PySem.W.Frag) (x : XSp) (ps : List Str) : Prop := ∀ {P : Program}, FileIs P x.file → ∃ fd, SupF P K (xD K x) (xI K x) x.params x.body x.scope fd ∧ Binds K fd ps []
theorem ini_ok {P : Program} {K : PySem.W.Frag} {x : XSp} (hP : FileIs P x.file) (e : fnXo K x = x.val) (c : iniB K x = true) : ∃ fd, SupF P K (xD K x) (xI K x) x.params x.body x.scope fd ∧
    ∃ (kV doc pm : Value) (an : Option Addr) (cda cc : Addr) (ct : Value), fd = PySem.W.ksFn x.nm x.qual x.params x.body x.scope .none kV doc pm an (.ref cda) ct cc := by
  obtain ⟨c1, c⟩ := band c
  obtain ⟨c2, c⟩ := band c
  obtain ⟨c3, c⟩ := band c
  obtain ⟨c4, c5⟩ := band c
  unfold fnXo at e
  cases q : K.lookup (xI K x) with
  | none =>
    rw [q] at c1
    cases c1
  | some o =>
    obtain ⟨oc, od, dt, osl⟩ := o
    rw [q] at c1 e
    cases dt with
    | func fd =>
      obtain ⟨n1, n2, n3, n4, n5, n6, n7, n8, n9, n10, n11, n12, n13, n14, n15⟩ := fd
      have e2 : (some (n1, n2, n3, n4, n5, n6, n15) : FnX) = some (x.nm, x.qual, x.params, .stmts x.body, x.scope, mainGlobals, builtinsNs) := e
      simp only [Option.some.injEq, Prod.mk.injEq] at e2
      obtain ⟨h1, h2, h3, h4, h5, h6, h8⟩ := e2
      subst h1 h2 h3 h4 h5 h6 h8
      have d0 : (PySem.W.codeIn K n13 x.qual && (fileB K n13 x.file && (cellB K n7 (xD K x) && noneB n8))) = true := c1
      obtain ⟨d1, d⟩ := band d0
      obtain ⟨d2, d⟩ := band d
      obtain ⟨d3, d4⟩ := band d
      obtain ⟨cda, ccl, cdd, vs, ccs, tf, rfl, l1, l2⟩ := fileB_ok d2
      obtain ⟨cc, cl, cld, csl, rfl, l3⟩ := cellB_ok d3
      obtain rfl := noneB_ok d4
      refine ⟨_, ⟨⟨oc, od, osl, _, n9, n10, n11, n12, cda, cc, n14, x.nm, x.qual, rfl, q, d1, ⟨ccl, cdd, vs, ccs, x.file, tf, l1, l2, ?_⟩, cl, cld, csl, l3⟩, Option.isSome_iff_exists.mp c2, He.eqO_ok c3, He.eqO_ok c4, hP.2, c5⟩, n9, n10, n11, n12, cda, cc, n14, rfl⟩
      rw [hP.1]
      exact BEq.rfl
    | _ => cases c1
/-! ### the Hook -/
abbrev AlX : Type := He.AlD × FnX × Bool
def obsX (fa : List He.Fa) (fn : List He.DefD) (x : XSp) (K : PySem.W.Frag) : AlX := (He.obsD fa fn K, fnXo K x, xsB K x)
def valX (fn : List He.DefD) (x : XSp) : AlX := (He.valD fn, x.val, true)
def SaysX (fa : List He.Fa) (fn : List He.DefD) (x : XSp) (K : PySem.W.Frag) : Prop := obsX fa fn x K = valX fn x
def obsXG (n : Nat) (fa : List He.Fa) (fn : List He.DefD) (x : XSp) (g : Addr → Option Obj) : AlX := obsX fa fn x (He.frG g (cStatics :: He.asD g n))
def hookX (n : Nat) (fa : List He.Fa) (fn : List He.DefD) (x : XSp) : PySem.W.Hook where
  α := AlX
  obs := fun s => obsXG n fa fn x s.heap.get?
  val := fun _ => valX fn x
  says := fun _ h => ∃ K : PySem.W.Frag, K.In h ∧ SaysX fa fn x K
  of := fun _ _ e => ⟨_, He.frG_in, e⟩
  keeps := fun _ _ _ ⟨K, hK, c⟩ k => ⟨K, PySem.W.Frag.In.keeps hK k, c⟩
theorem obsXG_eq {n : Nat} {fa : List He.Fa} {fn : List He.DefD} {x : XSp} {g : Addr → Option Obj} {s : Shared} (h : ∀ a, g a = s.heap.get? a) : obsXG n fa fn x g = (hookX n fa fn x).obs s := by
  have e : g = s.heap.get? := funext h
  rw [e] <;> rfl
section
variable {fa : List He.Fa} {fn : List He.DefD} {x : XSp} {K : PySem.W.Frag}
theorem SaysX.d (c : SaysX fa fn x K) : He.SaysD fa fn K := congrArg (fun z : AlX => z.1) c
theorem SaysX.cls {h : Heap} {mg : Str → Option Value} (c : SaysX fa fn x K) (X : K.In h) (G : h.Ns mainGlobals mg) (i : Nat) {n : Str} (hn : x.cls[i]? = some n := by rfl) : ExAt K mg x n := by
  have c1 : xsB K x = true := congrArg (fun z : AlX => z.2.2) c
  obtain ⟨_, c2⟩ := band c1
  obtain ⟨c3, c4⟩ := band (List.all_eq_true.mp c2 n (List.mem_of_getElem? hn))
  obtain ⟨c5, c6⟩ := band c4
  obtain ⟨e1, e2⟩ := exfB_ok c5
  exact ⟨_, PySem.W.mg_of X G (He.eqO_ok c3), e1, e2, of_decide_eq_true c6⟩
theorem SaysX.ini (c : SaysX fa fn x K) {ps : List Str} (h : ∀ (kV doc pm : Value) (an : Option Addr) (cda cc : Addr) (ct : Value) (us : List Value), us.length = ps.length → bindArgs (PySem.W.ksFn x.nm x.qual x.params x.body x.scope .none kV doc pm an (.ref cda) ct cc) ⟨us, []⟩ = pure (ps.zip us)) :
    IniAt K x ps := fun {P} hP => by
  have c1 : xsB K x = true := congrArg (fun z : AlX => z.2.2) c
  obtain ⟨fd, S, kV, doc, pm, an, cda, cc, ct, rfl⟩ := ini_ok hP (congrArg (fun z : AlX => z.2.1) c) (band c1).1
  exact ⟨_, S, .all (h kV doc pm an cda cc ct)⟩
end
end My

/-! the end: a law's promise, at what the top has left -/
namespace My
open PySem PySem.Spec PyProof.Rows L2
abbrev EndR (t : Shared) (r : Result) (t2 : Shared) : Prop := r = .ok (.ret (.bool true)) ∧ OldK t.heap t2.heap ∧ t2.os = t.os ∧ AllBare t2.gens
theorem end_core {P : Program} {w : World} {K : PySem.W.Frag} {mg mb : Str → Option Value} {k : Nat} {g a : Addr} {fd : FuncData} {x : Str} {sp : Sp} {t : Shared} {us : List Value} {ns : List Int} (kin : K.In t.heap)
    (glo : t.heap.Ns mainGlobals mg) (blt : t.heap.Ns builtinsNs mb) (mean : ∀ y : Str, y ≠ "__name__" → mb y = bootBuiltins y) (lim : t.heap.NoLimit) (gens : t.gens = #[])
    (lst : t.heap.get? a = some { cls := .type "list", data := .seq us.toArray }) (room : Room k callerA)
    (F : ∀ base : Heap, K.In base → base.Ns mainGlobals mg → FnG P w K mg base CX0 k g fd [x] sp)
    (bind : ∀ (t : Shared) (u : Value), BindsTo t fd ⟨[u], []⟩ [(x, u)]) {H : Hp} (only : Only H) (sat : sp [.ref a] H (fun v _ => v = .bl true) fun _ _ _ => False) (hok : HOk P w H t.heap)
    (one : ∀ b, H b ≠ none → b = a) (apart : H a ≠ none → K.lookup a = none) : codeAny (model P w) callerA (.call (.ref g) ⟨[.ref a], []⟩) (EndR t) t := by
  have gone : ∀ {b : Addr}, ¬ H b ≠ none → H b = none := fun {b} z => Decidable.not_not.mp z
  have dictFree : ∀ {b : Addr} {o : Obj} {es : Array DictEntry} {ep : Nat}, t.heap.get? b = some o → o.data = .dict es ep → H b = none := by
    intro b o es ep e d
    apply gone
    intro z
    have eb := one b z
    rw [eb, lst] at e
    cases e
    cases (d : Data.seq us.toArray _ = Data.dict es ep)
  have spaces : ∀ {b : Addr} {m : Str → Option Value}, t.heap.Ns b m → (hidT t.heap H).Ns b m := by
    rintro b m ⟨o, es, ep, e, d, r⟩
    exact ⟨o, es, ep, hidT_get e (dictFree e d), d, r⟩
  have kinB : K.In (hidT t.heap H) := by
    intro b o e
    refine hidT_get (kin b o e) (gone fun z => ?_)
    have eb := one b z
    rw [eb] at z e
    rw [apart z] at e
    cases e
  have mod : Mod K mg (hidT t.heap H) := by
    refine ⟨kinB, spaces glo, ⟨mb, spaces blt, mean⟩, ?_⟩
    obtain ⟨mc, n1, n2⟩ := lim
    exact ⟨mc, spaces n1, n2⟩
  have env : Env0 P w K mg (hidT t.heap H) callerA [] t H :=
    ⟨rfl, mod, fun b o e => of_hidT e, Nat.le_of_eq (hidT_size _ _), trivial, fun b hb => (List.not_mem_nil hb).elim, hok, .of_eq gens⟩
  have start := (F _ kinB (spaces glo)).run callerA [] t H ⟨[.ref a], []⟩ [.ref a] [.ref a] _ _ rfl room env (bind t (.ref a)) (.cons rfl .nil) sat
  refine codeAny_mono start fun r t2 got => ?_
  match r, got with
  | .error e, got => exact got.elim
  | .ok (.ret u), ⟨v, H2, os, bare, un, hok2, rv, ev⟩ =>
    have ev : v = .bl true := ev
    rw [ev] at rv
    have eu : u = Value.bool true := rv
    rw [eu]
    refine ⟨rfl, OldK.of_keep fun b o e => ?_, os, bare⟩
    rcases only b with z | ⟨ob, xs, z⟩
    · exact un.keep b o e z List.not_mem_nil List.not_mem_nil
    · obtain ⟨e1, _⟩ := hok b _ z
      obtain ⟨e2, _⟩ := hok2 b _ (un.frzs b ob _ z)
      rw [e1] at e
      rw [← e]
      exact e2
theorem end_call {P : Program} {w : World} {K : PySem.W.Frag} {mg mb : Str → Option Value} {k : Nat} {g a : Addr} {fd : FuncData} {x : Str} {sp : Sp} {t : Shared} {us : List Value} {ns : List Int} (kin : K.In t.heap)
    (glo : t.heap.Ns mainGlobals mg) (blt : t.heap.Ns builtinsNs mb) (mean : ∀ y : Str, y ≠ "__name__" → mb y = bootBuiltins y) (lim : t.heap.NoLimit) (gens : t.gens = #[])
    (lst : t.heap.get? a = some { cls := .type "list", data := .seq us.toArray }) (areInts : IntsAre us ns) (len : ns.length ≤ sizeLine) (room : Room k callerA)
    (F : ∀ base : Heap, K.In base → base.Ns mainGlobals mg → FnG P w K mg base CX0 k g fd [x] sp)
    (bind : ∀ (t : Shared) (u : Value), BindsTo t fd ⟨[u], []⟩ [(x, u)]) (sat : ∀ H : Hp, Only H → SqL K H a (ns.map V.int) → sp [.ref a] H (fun v _ => v = .bl true) fun _ _ _ => False) :
    codeAny (model P w) callerA (.call (.ref g) ⟨[.ref a], []⟩) (EndR t) t := by
  have rv := vals_ints areInts
  have lu := areInts.length
  cases hk : K.lookup a with
  | some o =>
    have e := kin a o hk
    rw [lst] at e
    obtain rfl := Option.some.inj e
    have only : Only fun _ => none := fun _ => .inl rfl
    refine end_core (H := fun _ => none) (ns := ns) kin glo blt mean lim gens lst room F bind only (sat _ only (.inr ⟨_, us.toArray, _, hk, rfl, rfl, rfl, ?_, by simpa using rv⟩)) (fun b u z => ?_) (fun b z => absurd rfl z) fun z => absurd rfl z
    · rw [List.size_toArray, lu]
      exact len
    · cases (z : (none : Option HO) = some u)
  | none =>
    have at1 : upd (fun _ => none) a (.frz { cls := .type "list", data := .seq us.toArray } (.lst (ns.map V.int))) a = some (.frz { cls := .type "list", data := .seq us.toArray } (.lst (ns.map V.int))) := upd_same
    have off : ∀ {b : Addr}, b ≠ a → upd (fun _ => none) a (.frz { cls := .type "list", data := .seq us.toArray } (.lst (ns.map V.int))) b = none := fun nb => upd_ne nb
    generalize upd (fun _ => none) a (.frz { cls := .type "list", data := .seq us.toArray } (.lst (ns.map V.int))) = H at at1 off
    have only : Only H := fun b => (Decidable.em (b = a)).elim (fun z => .inr ⟨_, _, z ▸ at1⟩) fun z => .inl (off z)
    refine end_core (H := H) (ns := ns) kin glo blt mean lim gens lst room F bind only (sat _ only (.inl (.inr ⟨_, at1⟩))) (fun b u z => ?_) (fun b z => Decidable.byContradiction fun q => z (off q)) fun _ => hk
    by_cases hb : b = a
    · rw [hb, at1] at z
      obtain rfl := Option.some.inj z
      rw [hb]
      exact ⟨lst, by rw [List.length_map]; exact len, us, _, rv, lst⟩
    · rw [off hb] at z
      cases z
theorem end_walk {l : PySem.W.OpenLaw} {n k : Nat} {q : Program} {loose : List Str} {XP : (Str → Option Value) → Heap → Prop} {YP : World → Heap → Prop} {d : DefRec} {x : Str} (most : l.most = some n) (fits : n ≤ sizeLine) (plain : d.params.defaults = []) (room : Room k callerA)
    (F : ∀ (w : World) (mg : Str → Option Value) (g : Addr) (h : Heap), YP w h → h.Ns mainGlobals mg → mg d.name = some (.ref g) → ∃ (K : PySem.W.Frag) (fd : FuncData) (sp : Sp), K.In h ∧ (∀ (t : Shared) (u : Value), BindsTo t fd ⟨[u], []⟩ [(x, u)]) ∧
      (∀ (H : Hp) (a : Addr) (ns : List Int), ns.length ≤ n → Only H → SqL K H a (ns.map V.int) → sp [.ref a] H (fun v _ => v = .bl true) fun _ _ _ => False) ∧ ∀ base : Heap, K.In base → base.Ns mainGlobals mg → FnG l.prog w K mg base CX0 k g fd [x] sp) :
    PySem.W.WalkO q loose XP YP l.row.toRowW d [] (fun f vs => PySem.call f vs) := by
  refine Att.attach_call most plain fun w s1 t mg mb g o pm cd doc a us ns G Y ho hd hcd hm lst areInts hlen gens => ?_
  obtain ⟨K, fd, sp, kin, bind, sat, run⟩ := F w mg g _ Y G.T.g hm
  exact end_call kin G.T.g G.T.b G.T.builtins G.T.nolimit gens lst areInts (Nat.le_trans hlen fits) room run bind fun H hO hS => sat H a ns hlen hO hS
/-- the law's def, over every base -/
theorem law_fn {P : Program} {w : World} {K : PySem.W.Frag} {mg : Str → Option Value} {x y : Str} {st : Stmt} {k : Nat} {sp : Sp} {g : Addr} (D : DefAt K mg x st [y]) (hm : mg x = some (.ref g)) (G : ∀ base : Heap, Ok P w K mg base CX0 k x [y] sp)
    (h : ∀ (kV doc pm : Value) (an : Option Addr) (cdv ct : Value) (us : List Value), us.length = [y].length → bindArgs (PySem.W.fnOf x x (defArgs st) (defBody st) (defScope st) .none kV doc pm an cdv ct) ⟨us, []⟩ = pure ([y].zip us)) :
    ∃ fd, (∀ (t : Shared) (u : Value), BindsTo t fd ⟨[u], []⟩ [(y, u)]) ∧ ∀ base : Heap, FnG P w K mg base CX0 k g fd [y] sp := by
  obtain ⟨f, fd, F, _, hf⟩ := D
  obtain rfl : g = f := by
    rw [hm] at hf
    cases hf
    rfl
  refine ⟨fd, fun t u => F.bindsA h t [u] rfl, fun base => ?_⟩
  obtain ⟨f2, fd2, F2, _, hf2, _, a2⟩ := G base
  obtain rfl : g = f2 := by
    rw [hm] at hf2
    cases hf2
    rfl
  rw [fdAt_eq (fdAt_of F) a2]
  exact F2
end My

/-! min of a list of texts; sorted of a list of tuples of texts -/
namespace My
open PySem PySem.Spec PyProof.Rows L2 Evl
/-- the least text -/
def minS (x : Str) (xs : List Str) : Str := xs.foldl (fun a y => if sg y < sg a then y else a) x
theorem minS_data (x : Str) : ∀ xs : List Str, PySem.W.minD (.str x) (xs.map PyData.str) = .str (minS x xs) := by
  intro xs
  unfold PySem.W.minD minS
  induction xs generalizing x with
  | nil => rfl
  | cons y ys ih =>
    rw [List.map_cons, List.foldl_cons, List.foldl_cons, PySem.W.dataLt_str]
    show List.foldl _ (if decide (sg y < sg x) = true then PyData.str y else PyData.str x) _ = _
    by_cases h : sg y < sg x
    · rw [if_pos h, if_pos (decide_eq_true h)]
      exact ih y
    · rw [if_neg h, if_neg (by rw [decide_eq_false h]; exact Bool.false_ne_true)]
      exact ih x
theorem sg_le_trans {a b c : List Nat} (h1 : ¬ b < a) (h2 : ¬ c < b) : ¬ c < a := fun h => by
  have := List.le_trans (List.not_lt.mp h1) (List.not_lt.mp h2)
  exact List.not_lt.mpr this h
theorem minS_spec : ∀ (xs : List Str) (x : Str), (minS x xs = x ∨ minS x xs ∈ xs) ∧ ¬ sg x < sg (minS x xs) ∧ ∀ y ∈ xs, ¬ sg y < sg (minS x xs)
  | [], x => ⟨.inl rfl, List.lt_irrefl _, fun y hy => (List.not_mem_nil hy).elim⟩
  | y :: ys, x => by
    have step : minS x (y :: ys) = minS (if sg y < sg x then y else x) ys := rfl
    rw [step]
    obtain ⟨h1, h2, h3⟩ := minS_spec ys (if sg y < sg x then y else x)
    generalize minS (if sg y < sg x then y else x) ys = m at h1 h2 h3
    by_cases h : sg y < sg x
    · rw [if_pos h] at h1 h2
      refine ⟨.inr (h1.elim (fun e => by rw [e]; exact List.mem_cons_self ..) fun e => List.mem_cons_of_mem _ e), fun z => h2 (List.lt_trans h z), fun z hz => ?_⟩
      rcases List.mem_cons.mp hz with rfl | hz
      · exact h2
      · exact h3 z hz
    · rw [if_neg h] at h1 h2
      refine ⟨h1.elim .inl fun e => .inr (List.mem_cons_of_mem _ e), h2, fun z hz => ?_⟩
      rcases List.mem_cons.mp hz with rfl | hz
      · exact sg_le_trans h2 h
      · exact h3 z hz
theorem depth_strs : ∀ (ws : List Str), PyData.depthAll (ws.map PyData.str) = 0
  | [] => rfl
  | x :: ws => by
    show max 0 (PyData.depthAll (ws.map PyData.str)) = 0
    rw [depth_strs ws]
    rfl
theorem alike_strs : ∀ xs ys : List Str, PySem.W.alikeAll (xs.map .str) (ys.map .str) = true
  | [], _ => by simp [PySem.W.alikeAll]
  | x :: xs, [] => rfl
  | x :: xs, y :: ys => by
    show (true && PySem.W.alikeAll (xs.map .str) (ys.map .str)) = true
    rw [alike_strs xs ys]
    rfl
def rMinS (K : PySem.W.Frag) : List V → Hp → VK → Prop := fun xs H Q => ∃ (a : Addr) (ks : List Str), xs = [.ref a] ∧ SqL K H a (ks.map V.str) ∧ ks ≠ [] ∧ ∀ m, m ∈ ks → (∀ y ∈ ks, ¬ sg y < sg m) → Q (.str m) H
/-- a tuple of texts that has one -/
def encT (b : Str × List Str) : PyData := strsT (b.1 :: b.2)
def sortT (bs : List (Str × List Str)) : List (Str × List Str) := bs.mergeSort (PySem.W.dataLe false encT)
theorem sortT_perm (bs : List (Str × List Str)) : (sortT bs).Perm bs := List.mergeSort_perm bs _
def rSortT (K : PySem.W.Frag) : List V → Hp → VK → Prop := fun xs H Q => ∃ (a : Addr) (acc : List V) (bs : List (Str × List Str)), xs = [.ref a] ∧ SqL K H a acc ∧ DpAll K H acc (bs.map encT) ∧ bs.length ≤ 100000 ∧
  ∀ p acc2, H p = none → DpAll K H acc2 ((sortT bs).map encT) → Q (.ref p) (upd H p (.lst acc2))
theorem each_dp {K : PySem.W.Frag} {H : Hp} : ∀ {acc : List V} {us : List Value} {bs : List (Str × List Str)}, DpAll K H acc (bs.map encT) → Vals acc us → PySem.W.EachIs (fun v b => ∃ x, RelV x v ∧ Dp K H x (encT b)) us bs
  | [], [], [], _, _ => .nil
  | [], [], _ :: _, h, _ => by cases h
  | _ :: _, _ :: _, [], h, _ => by cases h
  | x :: acc, u :: us, b :: bs, h, .cons r rs => by
    cases h with
    | cons h1 h2 => exact .cons ⟨x, r, h1⟩ (each_dp h2 rs)
  | [], _ :: _, _, _, r => nomatch r
  | _ :: _, [], _, _, r => nomatch r
theorem dp_each {K : PySem.W.Frag} {H : Hp} : ∀ {us : List Value} {bs : List (Str × List Str)}, PySem.W.EachIs (fun v b => ∃ x, RelV x v ∧ Dp K H x (encT b)) us bs → ∃ acc, DpAll K H acc (bs.map encT) ∧ Vals acc us
  | _, _, .nil => ⟨[], .nil, .nil⟩
  | _, _, .cons ⟨x, r, h⟩ e => by
    obtain ⟨acc, h1, h2⟩ := dp_each e
    exact ⟨x :: acc, .cons h h1, .cons r h2⟩
section
variable {X : Cx} {K : PySem.W.Frag}
theorem cr_minS (hc : X.calm = true) (hu : X.A.units + 64 < cLine) (hK : X.K = K := by rfl) : CallR X (.builtin "min") (rMinS K) := by
  subst hK
  intro pins st σ H xs us Q I r q
  obtain ⟨a, ks, rfl, hs, hne, q⟩ := q
  obtain ⟨its, rv, hl, _⟩ := I.list hs
  rw [Vals.ref1 r]
  cases ks with
  | nil => exact absurd rfl hne
  | cons k0 ks =>
    have dp : ∀ l : List Str, DpAll X.K H (l.map V.str) (l.map PyData.str) := fun l => by
      induction l with
      | nil => exact .nil
      | cons x l ih => exact .cons (.str x) ih
    obtain ⟨as, hr⟩ := Dp.readsAll I _ _ its (dp (k0 :: ks)) rv
    refine PySem.W.min_list_data (x := .str k0) (xs := ks.map PyData.str) (I.ok.hd hc) hl.isList (by rw [List.toList_toArray]; exact hr) ⟨fun x hx y hy => ?_, fun x hx => ?_⟩ ?_ fun i v h' tk bs hv rd hk => ?_
    · obtain ⟨x', _, rfl⟩ := List.mem_map.mp (show x ∈ (k0 :: ks).map PyData.str from hx)
      obtain ⟨y', _, rfl⟩ := List.mem_map.mp (show y ∈ (k0 :: ks).map PyData.str from hy)
      rfl
    · obtain ⟨x', _, rfl⟩ := List.mem_map.mp (show x ∈ (k0 :: ks).map PyData.str from hx)
      exact fun z => nomatch z
    · show X.A.units + 1 + PyData.depthAll ((k0 :: ks).map PyData.str) < cLine
      rw [depth_strs]
      omega
    · rw [minS_data] at rd
      obtain ⟨h1, h2, h3⟩ := minS_spec ks k0
      have mem : minS k0 ks ∈ k0 :: ks := h1.elim (fun e => by rw [e]; exact List.mem_cons_self ..) fun e => List.mem_cons_of_mem _ e
      cases rd with
      | str => exact ⟨.str _, H, I.kept (t' := tk) hk, ⟨_, rfl⟩, q _ mem fun y hy => (List.mem_cons.mp hy).elim (fun e => by rw [e]; exact h2) (h3 y)⟩
theorem cr_sortT (hu : X.A.units + 64 < cLine) (hK : X.K = K := by rfl) : CallR X (.builtin "sorted") (rSortT K) := by
  subst hK
  intro pins st σ H xs us Q I r q
  obtain ⟨a, acc, bs, rfl, hs, hd, hmax, q⟩ := q
  obtain ⟨its, rv, hl, _⟩ := I.list hs
  rw [Vals.ref1 r]
  have big : 100000 ≤ sizeLine := by decide
  have eb := each_dp hd rv
  refine PySem.W.sorted_data (R := fun v (b : Str × List Str) => ∃ x, RelV x v ∧ Dp X.K H x (encT b)) (enc := encT) (bs := bs) hl.isList eb (eb.mono fun v b ⟨x, h1, h2⟩ => Dp.reads I _ _ _ h2 h1)
    (PySem.W.AllAlike.of fun b b' => alike_strs (b.1 :: b.2) (b'.1 :: b'.2)) (PySem.W.Sortable.tuples fun b => ⟨.str b.1, b.2.map .str, rfl⟩) (by omega) (fun b _ => ?_) fun out olen eo => ?_
  · show X.A.units + 2 + (PyData.depthAll ((b.1 :: b.2).map PyData.str) + 1) < cLine
    rw [depth_strs]
    omega
  obtain ⟨acc2, hd2, hv2⟩ := dp_each eo
  obtain ⟨ep, he'⟩ := PyProof.Rows.sortedAll_at st.heap its out.toArray
  have l2 : acc2.length ≤ sizeLine := by
    rw [hv2.length, olen]
    omega
  exact ⟨.ref _, upd H (st.heap.objs.size + 1) (.lst acc2), I.laid (t' := st.toks) (fun _ _ => PyProof.Rows.sortedAll_old) (Nat.le_succ _) ⟨l2, out, ep, hv2, he'⟩, rfl, q _ _ (I.hok.fresh (Nat.le_succ _)) hd2⟩
theorem pi_range3K {tg a b c : Expr} {ta : TA} {p pos : Pos} (hg : Gl X "range") (hm : X.mg "range" = none) (ha : PA X [a, b, c] ta)
    (hs : starEach [a, b, c] X.env = (false, eval a X.env) :: starEach [b, c] X.env := by rfl) (hpl : (backTo pos (starEach [b, c] X.env)).any (·.1) = false := by rfl) :
    PI X tg (.Call (.Name "range" p) [a, b, c] [] pos) (iRng3 ta) := pi_range3 hg hm ha hs hpl
end
/-! ### a text, many times -/
theorem rep_fold (l : List Nat) : ∀ (m : Nat) (acc : Array Nat), (List.replicate m l.toArray).foldl (· ++ ·) acc = (acc.toList ++ rep m l).toArray
  | 0, acc => by
    unfold rep
    simp
  | m + 1, acc => by
    rw [List.replicate_succ, List.foldl_cons, rep_fold l m]
    unfold rep
    rw [List.replicate_succ, List.flatten_cons]
    simp
def rRepS : R2 := fun x y H Q => ∃ (z : Str) (k : Int), x = .str z ∧ y = .int k ∧ 2 ≤ k ∧ k ≤ 1000 ∧ 1 ≤ z.length ∧ z.length ≤ 1000 ∧ Q (.str (tx (rep k.toNat (sg z)))) H
theorem op_rep_str {X : Cx} : OpR X (binaryOp .Mult) rRepS := by
  intro pins s σ H x y v u Q I rx ry h
  obtain ⟨z, k, rfl, rfl, k2, k1000, z1, z1000, q⟩ := h
  obtain ⟨t, rfl⟩ := rx
  obtain ⟨t', rfl⟩ := ry
  have hm : z.length * k.toNat ≤ 1000 * 1000 := Nat.mul_le_mul z1000 (by omega)
  refine P.mul_str ?_ (fun _ _ => ?_) (fun _ _ => ?_) ?_
  · rw [decide_eq_false (by omega), decide_eq_false (by omega)]
    rfl
  · intro hgt
    have h1 : (2 ^ 63 - 1 : Int) / k < (z.length : Int) := hgt
    have h2 : (2 ^ 63 - 1 : Int) < (z.length : Int) * k := (Int.ediv_lt_iff_lt_mul (by omega)).mp h1
    have h3 : (z.length : Int) * k = ((z.length * k.toNat : Nat) : Int) := by
      rw [Int.natCast_mul, Int.toNat_of_nonneg (by omega)]
    omega
  · show decide (z.length * k.toNat > sizeLine) = false
    have big : 1000000 ≤ sizeLine := by decide
    exact decide_eq_false (by omega)
  · rw [if_neg (by omega), if_neg ?_]
    · have e : (List.replicate k.toNat z.cps).foldl (· ++ ·) #[] = (rep k.toNat (sg z)).toArray := by
        have := rep_fold (sg z) k.toNat #[]
        rw [List.nil_append] at this
        exact this
      rw [e]
      have l : (rep k.toNat (sg z)).toArray.size ≤ sizeLine := by
        have big : 1000000 ≤ sizeLine := by decide
        rw [List.size_toArray, rep_len, ← len_sg, Nat.mul_comm]
        omega
      exact ⟨l, .str _, H, I.tok _, ⟨_, rfl⟩, q⟩
    · intro h
      rcases Bool.or_eq_true_iff.mp h with h | h
      · have := eq_of_beq h
        omega
      · have := eq_of_beq h
        omega
end My

/-! the lots that hang together -/
namespace My
open PySem PySem.Spec PyProof.Rows L2 Evl
noncomputable def mutB (ws : List Str) (p q : Str) : Bool := rchB ws p q && rchB ws q p
theorem mutB_iff {ws : List Str} {p q : Str} : mutB ws p q = true ↔ Rch (nxts ws) p q ∧ Rch (nxts ws) q p := by
  unfold mutB
  rw [Bool.and_eq_true, rchB_iff, rchB_iff]
noncomputable def keyOf (ws : List Str) (p : Str) : Str := ((places ws).filter (mutB ws p)).headD p
theorem key_mut {ws : List Str} {p : Str} (hp : p ∈ plcs ws) : Rch (nxts ws) p (keyOf ws p) ∧ Rch (nxts ws) (keyOf ws p) p := by
  have hm : p ∈ (places ws).filter (mutB ws p) := List.mem_filter.mpr ⟨places_mem.mpr hp, mutB_iff.mpr ⟨.refl, .refl⟩⟩
  unfold keyOf
  cases e : (places ws).filter (mutB ws p) with
  | nil =>
    rw [e] at hm
    exact (List.not_mem_nil hm).elim
  | cons k ks =>
    have hk : k ∈ (places ws).filter (mutB ws p) := by
      rw [e]
      exact List.mem_cons_self ..
    exact mutB_iff.mp (List.mem_filter.mp hk).2
theorem key_same {ws : List Str} {p q : Str} (hp : p ∈ plcs ws) (h1 : Rch (nxts ws) p q) (h2 : Rch (nxts ws) q p) : keyOf ws p = keyOf ws q := by
  have hf : (places ws).filter (mutB ws p) = (places ws).filter (mutB ws q) := by
    refine List.filter_congr fun z hz => ?_
    rw [Bool.eq_iff_iff, mutB_iff, mutB_iff]
    exact ⟨fun ⟨a, b⟩ => ⟨h2.trans a, b.trans h1⟩, fun ⟨a, b⟩ => ⟨h1.trans a, b.trans h2⟩⟩
  have hm : p ∈ (places ws).filter (mutB ws p) := List.mem_filter.mpr ⟨places_mem.mpr hp, mutB_iff.mpr ⟨.refl, .refl⟩⟩
  unfold keyOf
  rw [← hf]
  cases e : (places ws).filter (mutB ws p) with
  | nil =>
    rw [e] at hm
    exact (List.not_mem_nil hm).elim
  | cons k ks => rfl
/-- it is the least of its kind -/
theorem key_least {ws : List Str} {p q : Str} (h1 : Rch (nxts ws) p q) (h2 : Rch (nxts ws) q p) (hq : q ∈ plcs ws) : ¬ sg q < sg (keyOf ws p) := by
  have hm : q ∈ (places ws).filter (mutB ws p) := List.mem_filter.mpr ⟨places_mem.mpr hq, mutB_iff.mpr ⟨h1, h2⟩⟩
  have ha : Asc ((places ws).filter (mutB ws p)) := List.Pairwise.filter _ (places_asc ws)
  unfold keyOf
  cases e : (places ws).filter (mutB ws p) with
  | nil =>
    rw [e] at hm
    exact (List.not_mem_nil hm).elim
  | cons k ks =>
    rw [e] at hm ha
    show ¬ sg q < sg k
    rcases List.mem_cons.mp hm with rfl | hm
    · exact List.lt_irrefl _
    · intro z
      exact List.lt_asymm z ((List.pairwise_cons.mp ha).1 q hm)
theorem key_is {ws l : List Str} {p m : Str} (hp : p ∈ plcs ws) (hl : ∀ z, z ∈ l ↔ Rch (nxts ws) p z ∧ Rch (nxts ws) z p) (hm : m ∈ l) (least : ∀ y ∈ l, ¬ sg y < sg m) : m = keyOf ws p := by
  obtain ⟨k1, k2⟩ := key_mut hp
  have a := least _ ((hl _).mpr ⟨k1, k2⟩)
  obtain ⟨m1, m2⟩ := (hl _).mp hm
  have b := key_least m1 m2 (rch_plc hp m1)
  exact sg_inj (List.le_antisymm (List.not_lt.mp a) (List.not_lt.mp b))
noncomputable def inL (ws : List Str) (x : Str) : Bool := rchB ws (endS x) (begS x)
noncomputable def lotOf (ws pre : List Str) (k : Str) : List Str := pre.filter fun x => inL ws x && decide (keyOf ws (begS x) = k)
noncomputable def lotKs (ws pre : List Str) : List Str := ded ((pre.filter (inL ws)).map fun x => keyOf ws (begS x))
theorem lotOf_mem {ws pre : List Str} {k x : Str} : x ∈ lotOf ws pre k ↔ x ∈ pre ∧ inL ws x = true ∧ keyOf ws (begS x) = k := by
  unfold lotOf
  rw [List.mem_filter, Bool.and_eq_true, decide_eq_true_iff]
theorem lotOf_snoc {ws pre : List Str} {x k : Str} : lotOf ws (pre ++ [x]) k = if inL ws x = true ∧ keyOf ws (begS x) = k then lotOf ws pre k ++ [x] else lotOf ws pre k := by
  unfold lotOf
  rw [List.filter_append]
  by_cases h : inL ws x = true ∧ keyOf ws (begS x) = k
  · rw [if_pos h, List.filter_cons_of_pos (by rw [h.1, decide_eq_true h.2]; rfl)]
    rfl
  · rw [if_neg h, List.filter_cons_of_neg (by rw [Bool.and_eq_true, decide_eq_true_iff]; exact h), List.filter_nil, List.append_nil]
theorem lotKs_snoc {ws pre : List Str} {x : Str} : lotKs ws (pre ++ [x]) = if inL ws x = true then addS (lotKs ws pre) (keyOf ws (begS x)) else lotKs ws pre := by
  unfold lotKs
  rw [List.filter_append]
  by_cases h : inL ws x = true
  · rw [if_pos h, List.filter_cons_of_pos h, List.map_append]
    exact ded_snoc _ _
  · rw [if_neg h, List.filter_cons_of_neg h, List.filter_nil, List.append_nil]
theorem lotKs_mem {ws pre : List Str} {k : Str} : k ∈ lotKs ws pre ↔ ∃ x ∈ pre, inL ws x = true ∧ keyOf ws (begS x) = k := by
  unfold lotKs
  rw [ded_mem, List.mem_map]
  exact ⟨fun ⟨x, h, e⟩ => ⟨x, (List.mem_filter.mp h).1, (List.mem_filter.mp h).2, e⟩, fun ⟨x, h1, h2, e⟩ => ⟨x, List.mem_filter.mpr ⟨h1, h2⟩, e⟩⟩
theorem lotOf_none {ws pre : List Str} {k : Str} (h : k ∉ lotKs ws pre) : lotOf ws pre k = [] := by
  refine List.eq_nil_iff_forall_not_mem.mpr fun x hx => h ?_
  obtain ⟨h1, h2, h3⟩ := lotOf_mem.mp hx
  exact lotKs_mem.mpr ⟨x, h1, h2, h3⟩
theorem lotOf_some {ws pre : List Str} {k : Str} (h : k ∈ lotKs ws pre) : lotOf ws pre k ≠ [] := fun e => by
  obtain ⟨x, h1, h2, h3⟩ := lotKs_mem.mp h
  have := lotOf_mem.mpr ⟨h1, h2, h3⟩
  rw [e] at this
  exact List.not_mem_nil this
theorem lotKs_len (ws pre : List Str) : (lotKs ws pre).length ≤ pre.length := by
  have := ded_le ((pre.filter (inL ws)).map fun x => keyOf ws (begS x))
  rw [List.length_map] at this
  exact Nat.le_trans this (List.length_filter_le ..)
/-- a list by its first one and its others -/
def hdtl (l : List Str) : Str × List Str := (l.headD (tx []), l.tail)
theorem hdtl_cons {l : List Str} (h : l ≠ []) : (hdtl l).1 :: (hdtl l).2 = l := by
  cases l with
  | nil => exact absurd rfl h
  | cons x l => rfl
noncomputable def lotsB (ws : List Str) : List (Str × List Str) := (lotKs ws ws).map fun k => hdtl (lotOf ws ws k)
noncomputable def lotsL (ws : List Str) : List (List Str) := (sortT (lotsB ws)).map fun b => b.1 :: b.2
theorem lotsL_mem {ws l : List Str} (h : l ∈ lotsL ws) : ∃ k ∈ lotKs ws ws, l = lotOf ws ws k := by
  obtain ⟨b, hb, rfl⟩ := List.mem_map.mp h
  obtain ⟨k, hk, rfl⟩ := List.mem_map.mp ((sortT_perm _).mem_iff.mp hb)
  exact ⟨k, hk, hdtl_cons (lotOf_some hk)⟩
theorem lotsL_len (ws : List Str) : (lotsL ws).length ≤ ws.length := by
  unfold lotsL
  rw [List.length_map, (sortT_perm _).length_eq]
  unfold lotsB
  rw [List.length_map]
  exact lotKs_len ws ws
theorem lot_sub {ws : List Str} {k : Str} : (lotOf ws ws k).Sublist ws := List.filter_sublist
theorem lot_path {ws : List Str} {k p : Str} (hp : p ∈ plcs ws) (hk : keyOf ws p = k) : ∀ {q : Str}, Rch (nxts ws) p q → Rch (nxts ws) q p → Rch (nxts (lotOf ws ws k)) p q := by
  intro q h
  induction h with
  | refl => exact fun _ => .refl
  | step h1 h2 ih =>
    intro back
    obtain ⟨y, hy, rfl, rfl⟩ := nxts_mem.mp h2
    have fwd : Rch (nxts ws) (begS y) p := (Rch.refl.step h2).trans back
    refine (ih fwd).step (nxts_mem.mpr ⟨y, lotOf_mem.mpr ⟨hy, rchB_iff.mpr (back.trans h1), ?_⟩, rfl, rfl⟩)
    rw [← hk]
    exact (key_same hp h1 fwd).symm
theorem lot_hang {ws : List Str} {k : Str} : Hang (lotOf ws ws k) := by
  have one : ∀ p ∈ plcs (lotOf ws ws k), p ∈ plcs ws ∧ keyOf ws p = k := fun p hp => by
    obtain ⟨x, hx, hxp⟩ := plcs_mem.mp hp
    obtain ⟨h1, h2, h3⟩ := lotOf_mem.mp hx
    have step : Rch (nxts ws) (begS x) (endS x) := Rch.refl.step (nxts_mem.mpr ⟨x, h1, rfl, rfl⟩)
    rcases hxp with rfl | rfl
    · exact ⟨beg_mem h1, h3⟩
    · exact ⟨end_mem h1, by rw [← h3]; exact (key_same (beg_mem h1) step (rchB_iff.mp h2)).symm⟩
  intro p hp q hq
  obtain ⟨p1, p2⟩ := one p hp
  obtain ⟨q1, q2⟩ := one q hq
  obtain ⟨a1, a2⟩ := key_mut p1
  obtain ⟨b1, b2⟩ := key_mut q1
  rw [p2] at a1 a2
  rw [q2] at b1 b2
  exact lot_path p1 p2 (a1.trans b2) (b1.trans a2)
theorem ded_const {k : Str} : ∀ {xs : List Str}, xs ≠ [] → (∀ x ∈ xs, x = k) → ded xs = [k] := fun {xs} hn h => by
  have nd := ded_nd xs
  have mem : ∀ z, z ∈ ded xs ↔ z ∈ xs := fun z => ded_mem
  cases e : ded xs with
  | nil =>
    cases xs with
    | nil => exact absurd rfl hn
    | cons x xs =>
      have := (mem x).mpr (List.mem_cons_self ..)
      rw [e] at this
      exact (List.not_mem_nil this).elim
  | cons a l =>
    rw [e] at nd mem
    have ha : a = k := h a ((mem a).mp (List.mem_cons_self ..))
    cases l with
    | nil => rw [ha]
    | cons b l =>
      have hb : b = k := h b ((mem b).mp (List.mem_cons_of_mem _ (List.mem_cons_self ..)))
      rw [ha, hb] at nd
      exact absurd (List.mem_cons_self ..) (List.nodup_cons.mp nd).1
theorem lots_one {ws : List Str} (hn : ws ≠ []) (hh : Hang ws) : lotsL ws = [ws] := by
  cases ws with
  | nil => exact absurd rfl hn
  | cons x0 ws0 =>
    generalize hws : x0 :: ws0 = ws at *
    have m0 : x0 ∈ ws := by rw [← hws]; exact List.mem_cons_self ..
    have hin : ∀ x ∈ ws, inL ws x = true := fun x hx => rchB_iff.mpr (hh _ (end_mem hx) _ (beg_mem hx))
    have hkey : ∀ x ∈ ws, keyOf ws (begS x) = keyOf ws (begS x0) := fun x hx => key_same (beg_mem hx) (hh _ (beg_mem hx) _ (beg_mem m0)) (hh _ (beg_mem m0) _ (beg_mem hx))
    have hf : ws.filter (inL ws) = ws := List.filter_eq_self.mpr hin
    have hks : lotKs ws ws = [keyOf ws (begS x0)] := by
      unfold lotKs
      rw [hf]
      refine ded_const (fun z => hn (List.map_eq_nil_iff.mp z)) fun k hk => ?_
      obtain ⟨x, hx, rfl⟩ := List.mem_map.mp hk
      exact hkey x hx
    have hl : lotOf ws ws (keyOf ws (begS x0)) = ws := List.filter_eq_self.mpr fun x hx => by rw [hin x hx, decide_eq_true (hkey x hx)]; rfl
    unfold lotsL lotsB
    rw [hks, List.map_cons, List.map_nil, hl]
    unfold sortT
    rw [List.mergeSort_singleton, List.map_cons, List.map_nil, hdtl_cons hn]
end My

/-! walks of windows, closed ones, their texts -/
namespace My
open PySem PySem.Spec PyProof.Rows L2 Evl
/-! ### lists in their order -/
theorem lex_of : ∀ {x y : List Nat} (k : Nat) {a b : Nat}, x[k]? = some a → y[k]? = some b → a < b → (∀ m < k, x[m]? = y[m]?) → x < y
  | [], _, _, _, _, h, _, _, _ => by simp at h
  | _ :: _, [], _, _, _, _, h, _, _ => by simp at h
  | x :: xs, y :: ys, 0, a, b, hx, hy, hlt, _ => by
    simp only [List.getElem?_cons_zero, Option.some.injEq] at hx hy
    subst hx hy
    exact List.Lex.rel hlt
  | x :: xs, y :: ys, k + 1, a, b, hx, hy, hlt, he => by
    have e0 := he 0 (Nat.zero_lt_succ _)
    simp only [List.getElem?_cons_zero, Option.some.injEq] at e0
    subst e0
    exact List.Lex.cons (lex_of k (by simpa using hx) (by simpa using hy) hlt fun m hm => by simpa using he (m + 1) (Nat.succ_lt_succ hm))
theorem lex_at : ∀ {x y : List Nat}, x < y → x.length = y.length → ∃ (k a b : Nat), x[k]? = some a ∧ y[k]? = some b ∧ a < b ∧ ∀ m < k, x[m]? = y[m]?
  | [], [], h, _ => absurd h (List.lt_irrefl _)
  | [], _ :: _, _, e => by simp at e
  | _ :: _, [], _, e => by simp at e
  | x :: xs, y :: ys, h, e => by
    cases h with
    | rel hlt => exact ⟨0, x, y, rfl, rfl, hlt, fun m hm => absurd hm (Nat.not_lt_zero _)⟩
    | cons h =>
      obtain ⟨k, a, b, h1, h2, h3, h4⟩ := lex_at h (by simpa using e)
      refine ⟨k + 1, a, b, by simpa using h1, by simpa using h2, h3, fun m hm => ?_⟩
      cases m with
      | zero => rfl
      | succ m => simpa using h4 m (Nat.lt_of_succ_lt_succ hm)
theorem snoc_nlt {a b : List Nat} {h : Nat} (e : b.length = a.length) (n : ¬ b < a) : ¬ (b ++ [h]) < (a ++ [h]) := fun z => by
  obtain ⟨k, u, v, h1, h2, h3, h4⟩ := lex_at z (by rw [List.length_append, List.length_append, e])
  by_cases hk : k < a.length
  · rw [List.getElem?_append_left (by omega)] at h1
    rw [List.getElem?_append_left hk] at h2
    refine n (lex_of k h1 h2 h3 fun m hm => ?_)
    have := h4 m hm
    rwa [List.getElem?_append_left (by omega), List.getElem?_append_left (by omega)] at this
  · have hk2 : k < a.length + 1 := by
      have := (List.getElem?_eq_some_iff.mp h2).1
      rw [List.length_append] at this
      exact this
    have hk3 : k = a.length := by omega
    rw [List.getElem?_append_right (by omega), hk3, e, Nat.sub_self] at h1
    rw [List.getElem?_append_right (by omega), hk3, Nat.sub_self] at h2
    cases h1
    cases h2
    omega
/-! ### walks -/
def Path (ws : List Str) : Str → List Str → Str → Prop
  | s, [], e => s = e
  | s, w :: r, e => w ∈ ws ∧ begS w = s ∧ Path ws (endS w) r e
section
variable {ws : List Str}
theorem path_app : ∀ {r q : List Str} {s m e : Str}, Path ws s r m → Path ws m q e → Path ws s (r ++ q) e
  | [], _, _, _, _, h1, h2 => by
    cases (h1 : _ = _)
    exact h2
  | _ :: _, _, _, _, _, ⟨a, b, c⟩, h2 => ⟨a, b, path_app c h2⟩
theorem path_split : ∀ {r q : List Str} {s e : Str}, Path ws s (r ++ q) e → ∃ m, Path ws s r m ∧ Path ws m q e
  | [], _, s, _, h => ⟨s, rfl, h⟩
  | _ :: _, _, _, _, ⟨a, b, c⟩ => by
    obtain ⟨m, h1, h2⟩ := path_split c
    exact ⟨m, ⟨a, b, h1⟩, h2⟩
theorem path_end : ∀ {r : List Str} {s m e : Str}, Path ws s r m → Path ws s r e → m = e
  | [], _, _, _, h1, h2 => (h1 : _ = _).symm.trans h2
  | _ :: _, _, _, _, ⟨_, _, c⟩, ⟨_, _, d⟩ => path_end c d
theorem path_snoc {r : List Str} {s e w : Str} : Path ws s (r ++ [w]) e ↔ Path ws s r (begS w) ∧ w ∈ ws ∧ endS w = e := by
  refine ⟨fun h => ?_, fun ⟨h1, h2, h3⟩ => path_app h1 ⟨h2, rfl, h3⟩⟩
  obtain ⟨m, h1, h2, h3, h4⟩ := path_split h
  rw [← h3] at h1
  exact ⟨h1, h2, h4⟩
theorem path_in : ∀ {r : List Str} {s e : Str}, Path ws s r e → ∀ x ∈ r, x ∈ ws
  | [], _, _, _, _, h => (List.not_mem_nil h).elim
  | _ :: _, _, _, ⟨a, _, c⟩, x, h => (List.mem_cons.mp h).elim (fun z => z ▸ a) (path_in c x)
theorem path_mono {vs : List Str} (hs : ∀ x ∈ ws, x ∈ vs) : ∀ {r : List Str} {s e : Str}, Path ws s r e → Path vs s r e
  | [], _, _, h => h
  | _ :: _, _, _, ⟨a, b, c⟩ => ⟨hs _ a, b, path_mono hs c⟩
theorem rch_path {s e : Str} (h : Rch (nxts ws) s e) : ∃ r, Path ws s r e := by
  induction h with
  | refl => exact ⟨[], rfl⟩
  | step _ h2 ih =>
    obtain ⟨r, hr⟩ := ih
    obtain ⟨x, hx, hb, he⟩ := nxts_mem.mp h2
    rw [← hb] at hr
    exact ⟨r ++ [x], path_snoc.mpr ⟨hr, hx, he⟩⟩
/-- the text of a walk: the first letters -/
def hdl (x : Str) : Nat := (sg x).headD 0
def txt (r : List Str) : List Nat := r.map hdl
def Cl (ws : List Str) (r : List Str) : Prop := r ≠ [] ∧ ∃ s, Path ws s r s
theorem cl_cons {w : Str} {r : List Str} : Cl ws (w :: r) ↔ w ∈ ws ∧ Path ws (endS w) r (begS w) := by
  refine ⟨fun ⟨_, s, h1, h2, h3⟩ => ⟨h1, by rw [h2]; exact h3⟩, fun ⟨h1, h2⟩ => ⟨List.cons_ne_nil _ _, begS w, h1, rfl, h2⟩⟩
/-! ### reading a closed walk's text -/
theorem path_at : ∀ {r : List Str} {s e : Str} {i : Nat} {a b : Str}, Path ws s r e → r[i]? = some a → r[i + 1]? = some b → endS a = begS b
  | [], _, _, _, _, _, _, h, _ => by simp at h
  | [_], _, _, _, _, _, _, _, h => by simp at h
  | x :: y :: r, _, _, 0, a, b, ⟨_, _, _, h, _⟩, h1, h2 => by
    simp only [List.getElem?_cons_zero, List.getElem?_cons_succ, Option.some.injEq] at h1 h2
    subst h1 h2
    exact h.symm
  | x :: y :: r, _, _, i + 1, a, b, ⟨_, _, h⟩, h1, h2 => path_at (i := i) h (by simpa using h1) (by simpa using h2)
theorem path_first {r : List Str} {s e a : Str} (h : Path ws s r e) (h1 : r[0]? = some a) : begS a = s := by
  cases r with
  | nil => simp at h1
  | cons x r =>
    simp only [List.getElem?_cons_zero, Option.some.injEq] at h1
    subst h1
    exact h.2.1
theorem path_last : ∀ {r : List Str} {s e a : Str}, Path ws s r e → r[r.length - 1]? = some a → endS a = e
  | [], _, _, _, _, h => by simp at h
  | [x], _, _, a, ⟨_, _, h⟩, h1 => by
    simp at h1
    subst h1
    exact h
  | x :: y :: r, _, _, a, ⟨_, _, h⟩, h1 => path_last h (by simpa using h1)
/-- the i-th window, round and round -/
def rnd1 (r : List Str) (i : Nat) : Str := atS r (i % r.length)
theorem rnd1_next {r : List Str} (h : Cl ws r) (i : Nat) : endS (rnd1 r i) = begS (rnd1 r (i + 1)) := by
  obtain ⟨hn, s, hp⟩ := h
  have hl : 0 < r.length := List.length_pos_iff.mpr hn
  have hm : i % r.length < r.length := Nat.mod_lt _ hl
  obtain ⟨a, ha⟩ : ∃ a, r[i % r.length]? = some a := ⟨_, List.getElem?_eq_getElem hm⟩
  unfold rnd1
  rw [atS_of ha]
  by_cases hlast : i % r.length = r.length - 1
  · have e1 : (i + 1) % r.length = 0 := by
      rw [Nat.add_mod, hlast]
      by_cases h1 : r.length = 1
      · rw [h1]
      · rw [Nat.mod_eq_of_lt (a := 1) (by omega), show r.length - 1 + 1 = r.length by omega, Nat.mod_self]
    rw [e1]
    obtain ⟨b, hb⟩ : ∃ b, r[0]? = some b := ⟨_, List.getElem?_eq_getElem hl⟩
    rw [atS_of hb, path_first hp hb]
    exact path_last hp (by rw [← hlast]; exact ha)
  · have e1 : (i + 1) % r.length = i % r.length + 1 := by
      have h2 : 1 < r.length := by omega
      rw [Nat.add_mod, Nat.mod_eq_of_lt (a := 1) h2, Nat.mod_eq_of_lt (by omega)]
    rw [e1]
    obtain ⟨b, hb⟩ : ∃ b, r[i % r.length + 1]? = some b := ⟨_, List.getElem?_eq_getElem (by omega)⟩
    rw [atS_of hb]
    exact path_at hp ha hb
theorem rnd1_mem {r : List Str} (hn : r ≠ []) (i : Nat) : rnd1 r i ∈ r := by
  have hl : 0 < r.length := List.length_pos_iff.mpr hn
  have hm : i % r.length < r.length := Nat.mod_lt _ hl
  unfold rnd1
  rw [atS_of (List.getElem?_eq_getElem hm)]
  exact List.getElem_mem ..
theorem rnd1_sg {n : Nat} {r : List Str} (h : Cl ws r) (hw : ∀ x ∈ r, x.length = n) : ∀ (j : Nat) (i : Nat), j < n → (sg (rnd1 r i))[j]? = some (hdl (rnd1 r (i + j)))
  | 0, i, hj => by
    have hl : (sg (rnd1 r i)).length = n := hw _ (rnd1_mem h.1 i)
    unfold hdl
    rw [Nat.add_zero]
    cases e : sg (rnd1 r i) with
    | nil =>
      rw [e] at hl
      simp at hl
      omega
    | cons a l => rfl
  | j + 1, i, hj => by
    have hl : (sg (rnd1 r (i + 1))).length = n := hw _ (rnd1_mem h.1 (i + 1))
    have h1 : (sg (rnd1 r i))[j + 1]? = (sg (endS (rnd1 r i)))[j]? := by
      show _ = ((sg (rnd1 r i)).drop 1)[j]?
      rw [List.getElem?_drop, Nat.add_comm]
    have h2 : (sg (begS (rnd1 r (i + 1))))[j]? = (sg (rnd1 r (i + 1)))[j]? := by
      show ((sg (rnd1 r (i + 1))).dropLast)[j]? = _
      rw [List.getElem?_dropLast, if_pos (by omega)]
    rw [h1, rnd1_next h i, h2, rnd1_sg h hw j (i + 1) (by omega), show i + 1 + j = i + (j + 1) by omega]
theorem txt_at {r : List Str} {i : Nat} (h : i < r.length) : (txt r)[i]? = some (hdl (rnd1 r i)) := by
  unfold txt rnd1
  rw [List.getElem?_map, Nat.mod_eq_of_lt h, List.getElem?_eq_getElem h, atS_of (List.getElem?_eq_getElem h)]
  rfl
theorem rnd_txt {n : Nat} {r : List Str} (h : Cl ws r) (hw : ∀ x ∈ r, x.length = n) : rnd n (tx (txt r)) = r := by
  have hl : 0 < r.length := List.length_pos_iff.mpr h.1
  have lt : (txt r).length = r.length := List.length_map ..
  unfold rnd
  show (List.range (txt r).length).map (fun i => tx (cyc (txt r) i n)) = r
  rw [lt]
  conv => rhs; rw [← range_atS r]
  refine List.map_congr_left fun i hi => ?_
  have hi := List.mem_range.mp hi
  have e : rnd1 r i = atS r i := by
    unfold rnd1
    rw [Nat.mod_eq_of_lt hi]
  rw [← e]
  refine sg_inj (List.ext_getElem? fun j => ?_)
  by_cases hj : j < n
  · rw [rnd1_sg h hw j i hj]
    show (cyc (txt r) i n)[j]? = _
    unfold cyc
    rw [List.getElem?_map, List.getElem?_range hj, Option.map_some, lt]
    congr 1
    have hm : (i + j) % r.length < r.length := Nat.mod_lt _ hl
    rw [List.getD_eq_getElem?_getD, txt_at hm]
    unfold rnd1
    rw [Nat.mod_mod]
    rfl
  · have h1 : (sg (rnd1 r i)).length = n := hw _ (rnd1_mem h.1 i)
    rw [List.getElem?_eq_none (l := sg (rnd1 r i)) (by rw [h1]; omega), List.getElem?_eq_none (by show (cyc (txt r) i n).length ≤ j; rw [cyc_len]; omega)]
/-- closed walks that part at a window -/
theorem txt_less {n : Nat} {p q q' : List Str} {c c' : Str} (h : Cl ws (p ++ c :: q)) (h' : Cl ws (p ++ c' :: q')) (hw : ∀ x ∈ ws, x.length = n) (hl : q.length = q'.length) (hc : lt c c') : ¬ txt (p ++ c' :: q') < txt (p ++ c :: q) := by
  have in1 : ∀ x ∈ p ++ c :: q, x.length = n := fun x hx => hw x (path_in h.2.choose_spec x hx)
  have in2 : ∀ x ∈ p ++ c' :: q', x.length = n := fun x hx => hw x (path_in h'.2.choose_spec x hx)
  have L : (p ++ c :: q).length = (p ++ c' :: q').length := by
    rw [List.length_append, List.length_append, List.length_cons, List.length_cons, hl]
  have lc : (sg c).length = (sg c').length := (in1 c (by simp)).trans (in2 c' (by simp)).symm
  obtain ⟨j, a, b, ha, hb, hab, hj⟩ := lex_at hc lc
  have jn : j < n := by
    have := (List.getElem?_eq_some_iff.mp ha).1
    have h2 : (sg c).length = n := in1 c (by simp)
    omega
  have c1 : rnd1 (p ++ c :: q) p.length = c := by
    unfold rnd1
    rw [Nat.mod_eq_of_lt (by rw [List.length_append, List.length_cons]; omega)]
    exact atS_of (by rw [List.getElem?_append_right (Nat.le_refl _), Nat.sub_self]; rfl)
  have c2 : rnd1 (p ++ c' :: q') p.length = c' := by
    unfold rnd1
    rw [Nat.mod_eq_of_lt (by rw [List.length_append, List.length_cons]; omega)]
    exact atS_of (by rw [List.getElem?_append_right (Nat.le_refl _), Nat.sub_self]; rfl)
  have g1 : ∀ m < n, (sg c)[m]? = some (hdl (rnd1 (p ++ c :: q) (p.length + m))) := fun m hm => by
    have := rnd1_sg h in1 m p.length hm
    rwa [c1] at this
  have g2 : ∀ m < n, (sg c')[m]? = some (hdl (rnd1 (p ++ c' :: q') (p.length + m))) := fun m hm => by
    have := rnd1_sg h' in2 m p.length hm
    rwa [c2] at this
  have below : ∀ m, m < p.length + j → m < (p ++ c :: q).length → (txt (p ++ c :: q))[m]? = (txt (p ++ c' :: q'))[m]? := fun m hm hL => by
    by_cases hp : m < p.length
    · unfold txt
      rw [List.getElem?_map, List.getElem?_map, List.getElem?_append_left hp, List.getElem?_append_left hp]
    · obtain ⟨d, rfl⟩ : ∃ d, m = p.length + d := ⟨m - p.length, by omega⟩
      rw [txt_at hL, txt_at (by rw [← L]; exact hL), ← g1 d (by omega), ← g2 d (by omega)]
      exact hj d (by omega)
  by_cases hL : p.length + j < (p ++ c :: q).length
  · have e1 := txt_at hL
    have e2 := txt_at (r := p ++ c' :: q') (i := p.length + j) (by rw [← L]; exact hL)
    rw [← g1 j jn, ha] at e1
    rw [← g2 j jn, hb] at e2
    exact fun z => List.lt_asymm z (lex_of (p.length + j) e1 e2 hab fun m hm => below m hm (by omega))
  · have e : txt (p ++ c :: q) = txt (p ++ c' :: q') := by
      refine List.ext_getElem? fun m => ?_
      by_cases hm : m < (p ++ c :: q).length
      · exact below m (by omega) hm
      · rw [List.getElem?_eq_none (by unfold txt; rw [List.length_map]; omega), List.getElem?_eq_none (by unfold txt; rw [List.length_map, ← L]; omega)]
    rw [e]
    exact List.lt_irrefl _
end
end My

/-! the shortest rounds, the least text of them -/
namespace My
open PySem PySem.Spec PyProof.Rows L2 Evl
theorem ex_least {p : Nat → Prop} (h : ∃ n, p n) : ∃ n, p n ∧ ∀ m, p m → n ≤ m := by
  obtain ⟨n, hn⟩ := h
  induction n using Nat.strongRecOn with
  | _ n ih =>
    by_cases hm : ∃ m, m < n ∧ p m
    · obtain ⟨m, h1, h2⟩ := hm
      exact ih m h1 h2
    · exact ⟨n, hn, fun m pm => Nat.le_of_not_lt fun z => hm ⟨m, z, pm⟩⟩
section
variable {ws : List Str}
/-- a shortest round with the least text -/
structure IsR (ws r : List Str) : Prop where
  cl : Cl ws r
  short : ∀ q, Cl ws q → r.length ≤ q.length
  least : ∀ q, Cl ws q → q.length = r.length → ¬ txt q < txt r
theorem IsR.one {r q : List Str} (h1 : IsR ws r) (h2 : IsR ws q) : txt r = txt q := by
  have l := Nat.le_antisymm (h1.short q h2.cl) (h2.short r h1.cl)
  exact List.le_antisymm (List.not_lt.mp (h1.least q h2.cl l.symm)) (List.not_lt.mp (h2.least r h1.cl l))
open Classical in
noncomputable def firstR (ws : List Str) : Option (List Nat) := if h : ∃ r, IsR ws r then some (txt h.choose) else none
theorem firstR_some {r : List Str} (h : IsR ws r) : firstR ws = some (txt r) := by
  have hx : ∃ r, IsR ws r := ⟨r, h⟩
  unfold firstR
  rw [dif_pos hx]
  exact congrArg some (IsR.one hx.choose_spec h)
theorem firstR_none (h : ∀ r, ¬ Cl ws r) : firstR ws = none := by
  unfold firstR
  rw [dif_neg fun ⟨r, hr⟩ => h r hr.cl]
/-! ### a shortest round is no longer than there are places -/
theorem visits : ∀ (r : List Str) {s e : Str}, Path ws s r e → (∃ vs : List Str, vs.Nodup ∧ vs.length = r.length ∧ ∀ p ∈ vs, p ∈ plcs ws ∧ ∃ q, q ≠ [] ∧ q.length ≤ r.length ∧ Path ws p q e) ∨ ∃ q, Cl ws q ∧ q.length < r.length := by
  intro r
  induction h : r.length generalizing r with
  | zero => exact fun {s e} _ => .inl ⟨[], List.nodup_nil, rfl, fun p hp => (List.not_mem_nil hp).elim⟩
  | succ t ih =>
    intro s e hp
    rcases snoc_cases r with rfl | ⟨r0, w, rfl⟩
    · simp at h
    rw [List.length_append] at h
    have h0 : r0.length = t := by simpa using h
    obtain ⟨h1, h2, rfl⟩ := path_snoc.mp hp
    rcases ih r0 h0 h1 with ⟨vs, nd, hl, hv⟩ | ⟨q, hq, hlq⟩
    · by_cases hb : begS w ∈ vs
      · obtain ⟨_, q, hq, hql, hqp⟩ := hv _ hb
        exact .inr ⟨q, ⟨hq, _, hqp⟩, by omega⟩
      · refine .inl ⟨begS w :: vs, List.nodup_cons.mpr ⟨hb, nd⟩, by rw [List.length_cons, hl], fun p hp => ?_⟩
        rcases List.mem_cons.mp hp with rfl | hp
        · exact ⟨beg_mem h2, [w], List.cons_ne_nil _ _, by simp, h2, rfl, rfl⟩
        · obtain ⟨a, q, hq, hql, hqp⟩ := hv p hp
          exact ⟨a, q ++ [w], by simp, by rw [List.length_append]; simp; omega, path_snoc.mpr ⟨hqp, h2, rfl⟩⟩
    · exact .inr ⟨q, hq, by omega⟩
theorem short_le {r : List Str} (hr : Cl ws r) (hs : ∀ q, Cl ws q → r.length ≤ q.length) : r.length ≤ (ded (plcs ws)).length := by
  obtain ⟨_, s, hp⟩ := hr
  rcases visits r hp with ⟨vs, nd, hl, hv⟩ | ⟨q, hq, hlq⟩
  · rw [← hl]
    exact nodup_len nd fun x hx => ded_mem.mpr (hv x hx).1
  · exact absurd (hs q hq) (by omega)
/-! ### a flood that counts -/
inductive Far (nb : Str → List Str) (g : Str) : Nat → Str → Prop
  | z : Far nb g 0 g
  | s {d : Nat} {p t : Str} : Far nb g d p → t ∈ nb p → Far nb g (d + 1) t
/-- a flood under way: at is what is looked at, i its place; its neighbours of pr are done -/
structure Bfs (nb : Str → List Str) (g : Str) (ks : List Str) (ds : Str → Nat) (i : Nat) : Prop where
  nd : ks.Nodup
  mem : g ∈ ks
  zero : ds g = 0
  snd : ∀ s ∈ ks, Far nb g (ds s) s
  mono : ks.Pairwise fun a b => ds a ≤ ds b
  bnd : ∀ p, ks[i]? = some p → ∀ s ∈ ks, ds s ≤ ds p + 1
  cls : ∀ (j : Nat) (p : Str), j < i → ks[j]? = some p → ∀ t ∈ nb p, t ∈ ks ∧ ds t ≤ ds p + 1
  lim : ∀ s ∈ ks, ds s < ks.length
theorem Bfs.start {nb : Str → List Str} {g : Str} {ds : Str → Nat} (h : ds g = 0) : Bfs nb g [g] ds 0 :=
  ⟨nodup_one g, List.mem_singleton.mpr rfl, h, fun s hs => by rw [List.mem_singleton.mp hs, h]; exact .z, List.pairwise_singleton _ _, fun p _ s hs => by rw [List.mem_singleton.mp hs, h]; omega, fun j p hj => absurd hj (Nat.not_lt_zero _), fun s hs => by rw [List.mem_singleton.mp hs, h]; exact Nat.zero_lt_one⟩
/-- one more is found -/
theorem Bfs.put {nb : Str → List Str} {g : Str} {ks : List Str} {ds : Str → Nat} {i : Nat} {p t : Str} (B : Bfs nb g ks ds i) (hp : ks[i]? = some p) (ht : t ∈ nb p) (hn : t ∉ ks) : Bfs nb g (ks ++ [t]) (fun z => if z = t then ds p + 1 else ds z) i := by
  have pm : p ∈ ks := List.mem_of_getElem? hp
  have old : ∀ s ∈ ks, (if s = t then ds p + 1 else ds s) = ds s := fun s hs => if_neg fun (e : s = t) => hn (by rw [← e]; exact hs)
  have hi : i < ks.length := (List.getElem?_eq_some_iff.mp hp).1
  refine ⟨List.nodup_append.mpr ⟨B.nd, nodup_one t, fun a ha b hb e => hn (by rw [← List.mem_singleton.mp hb, ← e]; exact ha)⟩, List.mem_append_left _ B.mem, ?_, fun s hs => ?_, ?_, fun q hq s hs => ?_, fun j q hj hq u hu => ?_, fun s hs => ?_⟩
  · show (if g = t then ds p + 1 else ds g) = 0
    rw [old g B.mem, B.zero]
  · show Far nb g (if s = t then ds p + 1 else ds s) s
    rcases List.mem_append.mp hs with hs | hs
    · rw [old s hs]
      exact B.snd s hs
    · rw [List.mem_singleton.mp hs, if_pos rfl]
      exact (B.snd p pm).s ht
  · refine List.pairwise_append.mpr ⟨B.mono.imp_of_mem fun {a b} ha hb h => ?_, List.pairwise_singleton _ _, fun a ha b hb => ?_⟩
    · show (if a = t then ds p + 1 else ds a) ≤ (if b = t then ds p + 1 else ds b)
      rw [old a ha, old b hb]
      exact h
    · show (if a = t then ds p + 1 else ds a) ≤ (if b = t then ds p + 1 else ds b)
      rw [old a ha, List.mem_singleton.mp hb, if_pos rfl]
      exact B.bnd p hp a ha
  · have hqp : q = p := by
      rw [List.getElem?_append_left hi, hp] at hq
      exact (Option.some.inj hq).symm
    subst hqp
    show (if s = t then ds q + 1 else ds s) ≤ (if q = t then ds q + 1 else ds q) + 1
    rw [old q pm]
    rcases List.mem_append.mp hs with hs | hs
    · rw [old s hs]
      exact B.bnd q hp s hs
    · rw [List.mem_singleton.mp hs, if_pos rfl]
      exact Nat.le_refl _
  · have hjl : j < ks.length := by omega
    rw [List.getElem?_append_left hjl] at hq
    obtain ⟨h1, h2⟩ := B.cls j q hj hq u hu
    refine ⟨List.mem_append_left _ h1, ?_⟩
    show (if u = t then ds p + 1 else ds u) ≤ (if q = t then ds p + 1 else ds q) + 1
    rw [old u h1, old q (List.mem_of_getElem? hq)]
    exact h2
  · show (if s = t then ds p + 1 else ds s) < (ks ++ [t]).length
    rw [List.length_append]
    have : [t].length = 1 := rfl
    have := B.lim p pm
    rcases List.mem_append.mp hs with hs | hs
    · rw [old s hs]
      have := B.lim s hs
      omega
    · rw [List.mem_singleton.mp hs, if_pos rfl]
      omega
/-- the next one -/
theorem Bfs.next {nb : Str → List Str} {g : Str} {ks : List Str} {ds : Str → Nat} {i : Nat} {p : Str} (B : Bfs nb g ks ds i) (hp : ks[i]? = some p) (h : ∀ t ∈ nb p, t ∈ ks) : Bfs nb g ks ds (i + 1) := by
  refine ⟨B.nd, B.mem, B.zero, B.snd, B.mono, fun q hq s hs => ?_, fun j q hj hq t ht => ?_, B.lim⟩
  · have h1 := B.bnd p hp s hs
    have hi := (List.getElem?_eq_some_iff.mp hp)
    have hi2 := (List.getElem?_eq_some_iff.mp hq)
    have := List.pairwise_iff_getElem.mp B.mono i (i + 1) hi.1 hi2.1 (by omega)
    rw [hi.2, hi2.2] at this
    omega
  · by_cases hji : j = i
    · subst hji
      rw [hp] at hq
      cases hq
      exact ⟨h t ht, B.bnd p hp t (h t ht)⟩
    · exact B.cls j q (by omega) hq t ht
/-- what it has found in the end -/
structure Dst (nb : Str → List Str) (g : Str) (ks : List Str) (ds : Str → Nat) : Prop where
  nd : ks.Nodup
  mem : g ∈ ks
  snd : ∀ s ∈ ks, Far nb g (ds s) s
  least : ∀ d s, Far nb g d s → s ∈ ks ∧ ds s ≤ d
  lim : ∀ s ∈ ks, ds s < ks.length
theorem Bfs.done {nb : Str → List Str} {g : Str} {ks : List Str} {ds : Str → Nat} {i : Nat} (B : Bfs nb g ks ds i) (hi : ks.length ≤ i) : Dst nb g ks ds := by
  refine ⟨B.nd, B.mem, B.snd, fun d s h => ?_, B.lim⟩
  induction h with
  | z => exact ⟨B.mem, by rw [B.zero]; exact Nat.le_refl _⟩
  | s _ ht ih =>
    obtain ⟨h1, h2⟩ := ih
    obtain ⟨j, hj, e⟩ := List.mem_iff_getElem.mp h1
    obtain ⟨h3, h4⟩ := B.cls j _ (by omega) (by rw [List.getElem?_eq_getElem hj, e]) _ ht
    exact ⟨h3, by omega⟩
/-! ### distances of windows -/
def ins (ws : List Str) (p : Str) : List Str := ws.filter fun x => decide (endS x = p)
theorem ins_mem {p x : Str} : x ∈ ins ws p ↔ x ∈ ws ∧ endS x = p := by
  unfold ins
  rw [List.mem_filter, decide_eq_true_iff]
def nbI (ws : List Str) (x : Str) : List Str := ins ws (begS x)
theorem far_path {g s : Str} {d : Nat} (h : Far (nbI ws) g d s) : ∃ r, r.length = d ∧ Path ws (begS s) r (begS g) ∧ (r ++ [g]).head? = some s := by
  induction h with
  | z => exact ⟨[], rfl, rfl, rfl⟩
  | s _ ht ih =>
    obtain ⟨r, h1, h2, h3⟩ := ih
    obtain ⟨h4, h5⟩ := ins_mem.mp ht
    refine ⟨_ :: r, by rw [List.length_cons, h1], ⟨h4, rfl, ?_⟩, rfl⟩
    rw [h5]
    exact h2
theorem path_far {g : Str} : ∀ {r : List Str} {s : Str}, (r ++ [g]).head? = some s → Path ws (begS s) r (begS g) → Far (nbI ws) g r.length s
  | [], s, h, _ => by
    simp at h
    subst h
    exact .z
  | x :: r, s, h, hp => by
    simp at h
    subst h
    obtain ⟨h1, _, h3⟩ := hp
    obtain ⟨y, hy⟩ : ∃ y, (r ++ [g]).head? = some y := by
      cases r with
      | nil => exact ⟨g, rfl⟩
      | cons z r => exact ⟨z, rfl⟩
    have hb : begS y = endS x := by
      cases r with
      | nil =>
        simp at hy
        subst hy
        exact (h3 : _ = _).symm
      | cons z r =>
        simp at hy
        subst hy
        exact h3.2.1
    rw [← hb] at h3
    exact (path_far hy h3).s (ins_mem.mpr ⟨h1, hb.symm⟩)
/-- how long the shortest round through a window is, 0: there is none -/
structure RL (ws : List Str) (w : Str) (l : Nat) : Prop where
  no : l = 0 → ∀ r, ¬ Cl ws (w :: r)
  yes : 0 < l → ∃ r, Cl ws (w :: r) ∧ r.length + 1 = l
  le : ∀ r, Cl ws (w :: r) → l ≤ r.length + 1
theorem round_step {w : Str} {r : List Str} (h : Cl ws (w :: r)) : ∃ s, (r ++ [w]).head? = some s ∧ s ∈ outs ws (endS w) ∧ Far (nbI ws) w r.length s := by
  obtain ⟨hw, hp⟩ := cl_cons.mp h
  cases r with
  | nil => exact ⟨w, rfl, outs_mem.mpr ⟨hw, (hp : _ = _).symm⟩, .z⟩
  | cons x r => 
    refine ⟨x, rfl, outs_mem.mpr ⟨hp.1, hp.2.1⟩, path_far (r := x :: r) rfl ?_⟩
    rw [hp.2.1]
    exact hp
theorem step_round {w s : Str} {d : Nat} (hw : w ∈ ws) (hs : s ∈ outs ws (endS w)) (h : Far (nbI ws) w d s) : ∃ r, Cl ws (w :: r) ∧ r.length = d ∧ (r ++ [w]).head? = some s := by
  obtain ⟨r, h1, h2, h3⟩ := far_path h
  refine ⟨r, cl_cons.mpr ⟨hw, ?_⟩, h1, h3⟩
  rw [(outs_mem.mp hs).2] at h2
  exact h2
theorem rl_of {w : Str} {ks : List Str} {ds : Str → Nat} (hw : w ∈ ws) (D : Dst (nbI ws) w ks ds) {l : Nat}
    (h0 : (∀ s ∈ outs ws (endS w), s ∉ ks) → l = 0) (h1 : ∀ m, (∃ s ∈ outs ws (endS w), s ∈ ks ∧ ds s = m) → (∀ s ∈ outs ws (endS w), s ∈ ks → m ≤ ds s) → l = 1 + m) : RL ws w l := by
  by_cases hn : ∃ m, ∃ s ∈ outs ws (endS w), s ∈ ks ∧ ds s = m
  · obtain ⟨m, ⟨s, hs, hk, hd⟩, hm⟩ := ex_least hn
    have hl := h1 m ⟨s, hs, hk, hd⟩ fun s2 h2 h3 => hm _ ⟨s2, h2, h3, rfl⟩
    obtain ⟨r, r1, r2, _⟩ := step_round hw hs (D.snd s hk)
    refine ⟨fun z => by omega, fun _ => ⟨r, r1, by omega⟩, fun r hr => ?_⟩
    obtain ⟨s2, _, h3, h4⟩ := round_step hr
    obtain ⟨h5, h6⟩ := D.least _ _ h4
    have := hm _ ⟨s2, h3, h5, rfl⟩
    omega
  · have none : ∀ r, ¬ Cl ws (w :: r) := fun r hr => by
      obtain ⟨s2, _, h3, h4⟩ := round_step hr
      exact hn ⟨_, s2, h3, (D.least _ _ h4).1, rfl⟩
    have hl := h0 fun s hs hk => hn ⟨_, s, hs, hk, rfl⟩
    exact ⟨fun _ => none, fun z => by omega, fun r hr => (none r hr).elim⟩
/-! ### the greedy road -/
def Less (R r : List Str) : Prop := ∃ p c c' q q', R = p ++ c :: q ∧ r = p ++ c' :: q' ∧ lt c c'
theorem Less.more {R r : List Str} (h : Less R r) (x : Str) : Less (R ++ [x]) r := by
  obtain ⟨p, c, c', q, q', rfl, h2, h3⟩ := h
  exact ⟨p, c, c', q ++ [x], q', by simp, h2, h3⟩
/-- left windows are lacking -/
structure Gr (ws : List Str) (g : Str) (L : Nat) (R : List Str) (c : Str) (left : Nat) : Prop where
  len : R.length + left = L
  path : Path ws (begS g) R (endS c)
  lst : ∃ R0, R = R0 ++ [c]
  rest : ∃ q, q.length = left ∧ Path ws (endS c) q (begS g)
  cmp : ∀ r, Cl ws r → r.length = L → (∃ q, r = R ++ q) ∨ Less R r
theorem Gr.start {g : Str} {L : Nat} (hg : g ∈ ws) (hr : ∃ r, Cl ws (g :: r) ∧ r.length + 1 = L) (hc : ∀ x r, Cl ws (x :: r) → r.length + 1 = L → g = x ∨ lt g x) : Gr ws g L [g] g (L - 1) := by
  obtain ⟨r, h1, h2⟩ := hr
  refine ⟨by simp; omega, ⟨hg, rfl, rfl⟩, ⟨[], rfl⟩, ⟨r, by omega, (cl_cons.mp h1).2⟩, fun q hq hl => ?_⟩
  cases q with
  | nil => exact absurd rfl hq.1
  | cons x q =>
    rcases hc x q hq hl with rfl | h
    · exact .inl ⟨q, rfl⟩
    · exact .inr ⟨[], g, x, [], q, rfl, rfl, h⟩
/-- the windows that may be next -/
theorem Gr.cand {g c : Str} {L left : Nat} {R ks : List Str} {ds : Str → Nat} (G : Gr ws g L R c (left + 1)) (D : Dst (nbI ws) g ks ds) (short : ∀ q, Cl ws q → L ≤ q.length) {q : List Str} {s : Str} (hq : q.length = left + 1) (hp : Path ws (endS c) q (begS g)) (hs : q.head? = some s) :
    s ∈ outs ws (endS c) ∧ s ∈ ks ∧ ds s = left + 1 := by
  cases q with
  | nil => simp at hs
  | cons x q =>
    simp at hs
    subst hs
    have hpath : Path ws (begS x) (x :: q) (begS g) := by
      rw [hp.2.1]
      exact hp
    have far := path_far (g := g) (r := x :: q) (s := x) rfl hpath
    rw [hq] at far
    obtain ⟨h1, h2⟩ := D.least _ _ far
    refine ⟨outs_mem.mpr ⟨hp.1, hp.2.1⟩, h1, Nat.le_antisymm h2 ?_⟩
    obtain ⟨r, r1, r2, r3⟩ := far_path (D.snd _ h1)
    rw [hp.2.1] at r2
    have cl : Cl ws (R ++ r) := ⟨by obtain ⟨R0, h⟩ := G.lst; rw [h]; simp, begS g, path_app G.path r2⟩
    have := short _ cl
    have l := G.len
    rw [List.length_append, r1] at this
    omega
theorem Gr.some {g c : Str} {L left : Nat} {R ks : List Str} {ds : Str → Nat} (G : Gr ws g L R c (left + 1)) (D : Dst (nbI ws) g ks ds) (short : ∀ q, Cl ws q → L ≤ q.length) : ∃ s ∈ outs ws (endS c), s ∈ ks ∧ ds s = left + 1 := by
  obtain ⟨q, h1, h2⟩ := G.rest
  cases q with
  | nil => simp at h1
  | cons x q =>
    obtain ⟨a, b, d⟩ := G.cand D short h1 h2 rfl
    exact ⟨x, a, b, d⟩
theorem Gr.step {g c c1 : Str} {L left : Nat} {R ks : List Str} {ds : Str → Nat} (G : Gr ws g L R c (left + 1)) (D : Dst (nbI ws) g ks ds) (short : ∀ q, Cl ws q → L ≤ q.length) (h1 : c1 ∈ outs ws (endS c)) (h2 : c1 ∈ ks) (h3 : ds c1 = left + 1)
    (first : ∀ s ∈ outs ws (endS c), s ∈ ks → ds s = left + 1 → c1 = s ∨ lt c1 s) : Gr ws g L (R ++ [c1]) c1 left := by
  obtain ⟨m1, m2⟩ := outs_mem.mp h1
  refine ⟨by have := G.len; rw [List.length_append]; simp; omega, path_snoc.mpr ⟨by rw [m2]; exact G.path, m1, rfl⟩, ⟨R, rfl⟩, ?_, fun r hr hl => ?_⟩
  · have far := D.snd _ h2
    rw [h3] at far
    obtain ⟨q, q1, q2, q3⟩ := far_path far
    cases q with
    | nil => simp at q1
    | cons x q =>
      simp at q3
      subst q3
      exact ⟨q, by simpa using q1, q2.2.2⟩
  · rcases G.cmp r hr hl with ⟨q, rfl⟩ | h
    · obtain ⟨_, s0, hp⟩ := hr
      obtain ⟨m, p1, p2⟩ := path_split hp
      have em : m = endS c := by
        obtain ⟨R0, hR⟩ := G.lst
        have gp := G.path
        cases R with
        | nil => simp at hR
        | cons y R =>
          have e0 : s0 = begS g := p1.2.1.symm.trans gp.2.1
          rw [e0] at p1
          exact path_end p1 gp
      have es : s0 = begS g := by
        obtain ⟨R0, hR⟩ := G.lst
        have gp := G.path
        cases R with
        | nil => simp at hR
        | cons y R => exact p1.2.1.symm.trans gp.2.1
      subst em es
      have ql : q.length = left + 1 := by
        have := G.len
        rw [List.length_append] at hl
        omega
      cases q with
      | nil => simp at ql
      | cons s q =>
        obtain ⟨a, b, d⟩ := G.cand D short ql p2 rfl
        rcases first s a b d with rfl | hlt
        · exact .inl ⟨q, by simp⟩
        · exact .inr ⟨R, c1, s, [], q, rfl, rfl, hlt⟩
    · exact .inr (h.more c1)
theorem Gr.done {g c : Str} {L n : Nat} {R : List Str} (hw : ∀ x ∈ ws, x.length = n) (G : Gr ws g L R c 0) (short : ∀ q, Cl ws q → L ≤ q.length) : IsR ws R := by
  have hn : R ≠ [] := by
    obtain ⟨R0, h⟩ := G.lst
    rw [h]
    simp
  obtain ⟨q, q1, q2⟩ := G.rest
  have q0 : q = [] := List.eq_nil_of_length_eq_zero q1
  subst q0
  have cl : Cl ws R := ⟨hn, begS g, by have := G.path; rw [(q2 : endS c = begS g)] at this; exact this⟩
  have len : R.length = L := G.len
  refine ⟨cl, fun q hq => by rw [len]; exact short q hq, fun r hr hl => ?_⟩
  rcases G.cmp r hr (hl.trans len) with ⟨q, rfl⟩ | ⟨p, d, d', u, u', hR, hr2, hlt⟩
  · have : q = [] := by
      rw [List.length_append] at hl
      exact List.eq_nil_of_length_eq_zero (by omega)
    rw [this, List.append_nil]
    exact List.lt_irrefl _
  · subst hR hr2
    refine txt_less cl hr hw ?_ hlt
    rw [List.length_append, List.length_append, List.length_cons, List.length_cons] at hl
    omega
end
/-- what leads on to the goal -/
theorem Dst.next {ws : List Str} {g c : Str} {ks : List Str} {ds : Str → Nat} (D : Dst (nbI ws) g ks ds) (hw : ∀ s ∈ ks, s ∈ ws) (hc : c ∈ ks) (hn : c ≠ g) : ∃ left p, ds c = left + 1 ∧ p ∈ outs ws (endS c) ∧ p ∈ ks ∧ ds p = left := by
  have h := D.snd c hc
  generalize hd : ds c = d at h
  cases h with
  | z => exact absurd rfl hn
  | s hp ht =>
    rename_i left p
    obtain ⟨h1, h2⟩ := D.least _ _ hp
    obtain ⟨h3, h4⟩ := ins_mem.mp ht
    refine ⟨left, p, rfl, outs_mem.mpr ⟨hw p h1, h4.symm⟩, h1, Nat.le_antisymm h2 ?_⟩
    have := (D.least _ _ ((D.snd p h1).s ht)).2
    omega
theorem RL.one {ws : List Str} {w : Str} {l l' : Nat} (h : RL ws w l) (h' : RL ws w l') : l = l' := by
  have half : ∀ {a b : Nat}, RL ws w a → RL ws w b → a ≤ b := fun {a b} ha hb => by
    by_cases hz : b = 0
    · by_cases haz : a = 0
      · omega
      · obtain ⟨r, hr, _⟩ := ha.yes (by omega)
        exact absurd hr (hb.no hz r)
    · obtain ⟨r, hr, hl⟩ := hb.yes (by omega)
      have := ha.le r hr
      omega
  exact Nat.le_antisymm (half h h') (half h' h)
open Classical in
noncomputable def rlen (ws : List Str) (w : Str) : Nat := if h : ∃ l, RL ws w l then h.choose else 0
theorem rlen_of {ws : List Str} {w : Str} {l : Nat} (h : RL ws w l) : l = rlen ws w := by
  have hx : ∃ l, RL ws w l := ⟨l, h⟩
  unfold rlen
  rw [dif_pos hx]
  exact h.one hx.choose_spec
theorem rlen_rl {ws : List Str} {w : Str} {l : Nat} (h : RL ws w l) : RL ws w (rlen ws w) := by
  rw [← rlen_of h]
  exact h
/-- the text of a shortest round, if there is one -/
noncomputable def frD (ws : List Str) : PyData := match firstR ws with
  | none => .none
  | some l => .str (tx l)
theorem frD_none {ws : List Str} (h : ∀ r, ¬ Cl ws r) : frD ws = .none := by
  unfold frD
  rw [firstR_none h]
theorem frD_some {ws : List Str} {l : List Nat} (h : firstR ws = some l) : frD ws = .str (tx l) := by
  unfold frD
  rw [h]
end My

/-! least texts, step by step; roads to new windows -/
namespace My
open PySem PySem.Spec PyProof.Rows L2 Evl
section
variable {ws : List Str}
/-- the least texts of the walks of t steps from s -/
structure Row (ws : List Str) (s : Str) (t : Nat) (ks : List Str) (f : Str → Str) : Prop where
  nd : ks.Nodup
  mem : ∀ e, e ∈ ks ↔ ∃ r, r.length = t ∧ Path ws s r e
  val : ∀ e ∈ ks, ∃ r, r.length = t ∧ Path ws s r e ∧ sg (f e) = txt r
  least : ∀ e ∈ ks, ∀ r, r.length = t → Path ws s r e → ¬ txt r < sg (f e)
theorem Row.start {s : Str} {f : Str → Str} (h : sg (f s) = []) : Row ws s 0 [s] f := by
  refine ⟨nodup_one s, fun e => ⟨fun he => ⟨[], rfl, (List.mem_singleton.mp he).symm⟩, fun ⟨r, hr, hp⟩ => ?_⟩, fun e he => ⟨[], rfl, (List.mem_singleton.mp he).symm, by rw [List.mem_singleton.mp he, h]; rfl⟩, fun e he r hr _ => ?_⟩
  · have : r = [] := List.eq_nil_of_length_eq_zero hr
    subst this
    exact List.mem_singleton.mpr (hp : s = e).symm
  · rw [List.mem_singleton.mp he, h]
    exact List.not_lt_nil _
/-- the next row, under way: P tells what is done -/
structure Nx (ws : List Str) (ks : List Str) (f : Str → Str) (P : Str → Str → Prop) (ks' : List Str) (f' : Str → Str) : Prop where
  nd : ks'.Nodup
  mem : ∀ e, e ∈ ks' ↔ ∃ p ∈ ks, e ∈ nxts ws p ∧ P p e
  val : ∀ e ∈ ks', ∃ p ∈ ks, e ∈ nxts ws p ∧ P p e ∧ sg (f' e) = sg (f p) ++ [hdl p]
  least : ∀ e ∈ ks', ∀ p ∈ ks, e ∈ nxts ws p → P p e → ¬ (sg (f p) ++ [hdl p]) < sg (f' e)
theorem Nx.start {ks : List Str} {f f' : Str → Str} : Nx ws ks f (fun _ _ => False) [] f' :=
  ⟨List.nodup_nil, fun e => ⟨fun h => (List.not_mem_nil h).elim, fun ⟨_, _, _, h⟩ => h.elim⟩, fun e h => (List.not_mem_nil h).elim, fun e h => (List.not_mem_nil h).elim⟩
theorem Nx.as {ks ks' : List Str} {f f' : Str → Str} {P P' : Str → Str → Prop} (N : Nx ws ks f P ks' f') (h : ∀ p ∈ ks, ∀ e ∈ nxts ws p, (P p e ↔ P' p e)) : Nx ws ks f P' ks' f' :=
  ⟨N.nd, fun e => (N.mem e).trans ⟨fun ⟨p, a, b, c⟩ => ⟨p, a, b, (h p a e b).mp c⟩, fun ⟨p, a, b, c⟩ => ⟨p, a, b, (h p a e b).mpr c⟩⟩,
    fun e he => let ⟨p, a, b, c, d⟩ := N.val e he; ⟨p, a, b, (h p a e b).mp c, d⟩, fun e he p a b c => N.least e he p a b ((h p a e b).mpr c)⟩
theorem Nx.put {ks ks' : List Str} {f f' : Str → Str} {P : Str → Str → Prop} {p e : Str} (N : Nx ws ks f P ks' f') (hp : p ∈ ks) (he : e ∈ nxts ws p) {x : Str} (hx : sg x = sg (f p) ++ [hdl p]) (hn : e ∈ ks' → sg x < sg (f' e)) :
    Nx ws ks f (fun p' e' => P p' e' ∨ (p' = p ∧ e' = e)) (addS ks' e) (fun z => if z = e then x else f' z) := by
  have at1 : ∀ z, z ≠ e → (if z = e then x else f' z) = f' z := fun z h => if_neg h
  refine ⟨addS_nd N.nd e, fun z => ?_, fun z hz => ?_, fun z hz q hq hzq hP => ?_⟩
  · rw [addS_mem, N.mem]
    constructor
    · rintro (⟨q, a, b, c⟩ | rfl)
      · exact ⟨q, a, b, .inl c⟩
      · exact ⟨p, hp, he, .inr ⟨rfl, rfl⟩⟩
    · rintro ⟨q, a, b, c | ⟨rfl, rfl⟩⟩
      · exact .inl ⟨q, a, b, c⟩
      · exact .inr rfl
  · by_cases h : z = e
    · refine ⟨p, hp, by rw [h]; exact he, .inr ⟨rfl, h⟩, ?_⟩
      show sg (if z = e then x else f' z) = _
      rw [if_pos h, hx]
    · rcases addS_mem.mp hz with hz | hz
      · obtain ⟨q, a, b, c, d⟩ := N.val z hz
        refine ⟨q, a, b, .inl c, ?_⟩
        show sg (if z = e then x else f' z) = _
        rw [at1 z h, d]
      · exact absurd hz h
  · show ¬ _ < sg (if z = e then x else f' z)
    by_cases h : z = e
    · rw [if_pos h]
      rcases hP with hP | ⟨hq2, _⟩
      · have hz2 : z ∈ ks' := (N.mem z).mpr ⟨q, hq, hzq, hP⟩
        have a := N.least z hz2 q hq hzq hP
        have b := hn (by rw [← h]; exact hz2)
        rw [← h] at b
        exact fun y => a (List.lt_trans y b)
      · rw [hq2, hx]
        exact List.lt_irrefl _
    · rw [at1 z h]
      rcases hP with hP | ⟨_, h2⟩
      · exact N.least z ((N.mem z).mpr ⟨q, hq, hzq, hP⟩) q hq hzq hP
      · exact absurd h2 h
theorem Nx.skip {ks ks' : List Str} {f f' : Str → Str} {P : Str → Str → Prop} {p e : Str} (N : Nx ws ks f P ks' f') (hk : e ∈ ks') (hn : ¬ (sg (f p) ++ [hdl p]) < sg (f' e)) :
    Nx ws ks f (fun p' e' => P p' e' ∨ (p' = p ∧ e' = e)) ks' f' := by
  refine ⟨N.nd, fun z => ?_, fun z hz => ?_, fun z hz q hq hzq hP => ?_⟩
  · rw [N.mem]
    constructor
    · rintro ⟨q, a, b, c⟩
      exact ⟨q, a, b, .inl c⟩
    · rintro ⟨q, a, b, c | ⟨rfl, rfl⟩⟩
      · exact ⟨q, a, b, c⟩
      · exact (N.mem z).mp hk
  · obtain ⟨q, a, b, c, d⟩ := N.val z hz
    exact ⟨q, a, b, .inl c, d⟩
  · rcases hP with hP | ⟨rfl, rfl⟩
    · exact N.least z hz q hq hzq hP
    · exact hn
theorem hdl_beg {x : Str} (h : 2 ≤ x.length) : hdl (begS x) = hdl x := by
  have h2 : 2 ≤ (sg x).length := h
  unfold hdl
  show ((sg x).dropLast).headD 0 = _
  match hx : sg x with
  | [] => rw [hx] at h2; simp at h2
  | [_] => rw [hx] at h2; simp at h2
  | a :: b :: l => rfl
theorem txt_snoc (r : List Str) (w : Str) : txt (r ++ [w]) = txt r ++ [hdl w] := List.map_append
theorem txt_len (r : List Str) : (txt r).length = r.length := List.length_map ..
theorem Nx.row {s : Str} {t : Nat} {ks ks' : List Str} {f f' : Str → Str} {P : Str → Str → Prop} (hw : ∀ x ∈ ws, 2 ≤ x.length) (R : Row ws s t ks f) (N : Nx ws ks f P ks' f') (all : ∀ p ∈ ks, ∀ e ∈ nxts ws p, P p e) : Row ws s (t + 1) ks' f' := by
  have dec : ∀ (r : List Str) (e : Str), r.length = t + 1 → Path ws s r e → ∃ r0 w, r = r0 ++ [w] ∧ r0.length = t ∧ Path ws s r0 (begS w) ∧ w ∈ ws ∧ endS w = e ∧ begS w ∈ ks ∧ e ∈ nxts ws (begS w) := fun r e hr hp => by
    rcases snoc_cases r with rfl | ⟨r0, w, rfl⟩
    · simp at hr
    obtain ⟨h1, h2, h3⟩ := path_snoc.mp hp
    have hl : r0.length = t := by simpa using hr
    exact ⟨r0, w, rfl, hl, h1, h2, h3, (R.mem _).mpr ⟨r0, hl, h1⟩, nxts_mem.mpr ⟨w, h2, rfl, h3⟩⟩
  refine ⟨N.nd, fun e => ⟨fun he => ?_, fun ⟨r, hr, hp⟩ => ?_⟩, fun e he => ?_, fun e he r hr hp => ?_⟩
  · obtain ⟨p, hp, hep, _⟩ := (N.mem e).mp he
    obtain ⟨r, r1, r2⟩ := (R.mem p).mp hp
    obtain ⟨w, w1, w2, w3⟩ := nxts_mem.mp hep
    exact ⟨r ++ [w], by rw [List.length_append, r1]; rfl, path_snoc.mpr ⟨by rw [w2]; exact r2, w1, w3⟩⟩
  · obtain ⟨r0, w, _, _, _, _, _, h1, h2⟩ := dec r e hr hp
    exact (N.mem e).mpr ⟨_, h1, h2, all _ h1 _ h2⟩
  · obtain ⟨p, hp, hep, _, hv⟩ := N.val e he
    obtain ⟨r, r1, r2, r3⟩ := R.val p hp
    obtain ⟨w, w1, w2, w3⟩ := nxts_mem.mp hep
    refine ⟨r ++ [w], by rw [List.length_append, r1]; rfl, path_snoc.mpr ⟨by rw [w2]; exact r2, w1, w3⟩, ?_⟩
    rw [hv, txt_snoc, r3, ← w2, hdl_beg (hw w w1)]
  · obtain ⟨r0, w, rfl, h0, h1, h2, h3, h4, h5⟩ := dec r e hr hp
    have a := N.least e he _ h4 h5 (all _ h4 _ h5)
    have b := R.least _ h4 r0 h0 h1
    obtain ⟨q, q1, _, q3⟩ := R.val _ h4
    rw [hdl_beg (hw w h2)] at a
    rw [txt_snoc]
    refine sg_le_trans2 a (snoc_nlt ?_ b)
    rw [q3, txt_len, txt_len, q1, h0]
where
  sg_le_trans2 {a b c : List Nat} (h1 : ¬ b < a) (h2 : ¬ c < b) : ¬ c < a := fun h => List.not_lt.mpr (List.le_trans (List.not_lt.mp h1) (List.not_lt.mp h2)) h
/-- a round of t steps is found, none shorter is there -/
theorem dp_some {t : Nat} {K : Str → List Str} {F : Str → Str → Str} (hR : ∀ s ∈ plcs ws, Row ws s t (K s) (F s)) (ht : 1 ≤ t) (hno : ∀ r, Cl ws r → t ≤ r.length) {s : Str} (hs : s ∈ plcs ws) (hk : s ∈ K s)
    (least : ∀ z ∈ plcs ws, z ∈ K z → ¬ sg (F z z) < sg (F s s)) : firstR ws = some (sg (F s s)) := by
  obtain ⟨r, r1, r2, r3⟩ := (hR s hs).val s hk
  have cl : Cl ws r := ⟨fun z => by rw [z] at r1; simp at r1; omega, s, r2⟩
  have is : IsR ws r := by
    refine ⟨cl, fun q hq => by rw [r1]; exact hno q hq, fun q hq hl z => ?_⟩
    obtain ⟨qn, s2, hp⟩ := hq
    have hs2 : s2 ∈ plcs ws := by
      cases q with
      | nil => exact absurd rfl qn
      | cons x q => exact hp.2.1 ▸ beg_mem hp.1
    have R2 := hR s2 hs2
    have k2 : s2 ∈ K s2 := (R2.mem s2).mpr ⟨q, hl.trans r1, hp⟩
    have a := R2.least s2 k2 q (hl.trans r1) hp
    have b := least s2 hs2 k2
    rw [r3] at b
    exact List.not_lt.mpr (List.le_trans (List.not_lt.mp b) (List.not_lt.mp a)) z
  rw [r3]
  exact firstR_some is
theorem dp_no {t : Nat} {K : Str → List Str} {F : Str → Str → Str} (hR : ∀ s ∈ plcs ws, Row ws s t (K s) (F s)) (hno : ∀ r, Cl ws r → t ≤ r.length) (none : ∀ s ∈ plcs ws, s ∉ K s) : ∀ r, Cl ws r → t + 1 ≤ r.length := fun r hr => by
  have h := hno r hr
  by_cases e : r.length = t
  · obtain ⟨qn, s2, hp⟩ := hr
    have hs2 : s2 ∈ plcs ws := by
      cases r with
      | nil => exact absurd rfl qn
      | cons x q => exact hp.2.1 ▸ beg_mem hp.1
    exact absurd (((hR s2 hs2).mem s2).mpr ⟨r, e, hp⟩) (none s2 hs2)
  · omega
/-- the same, row by row -/
theorem dp_some2 {t : Nat} {s : Str} {ks : List Str} {f : Str → Str} (R : Row ws s t ks f) (hk : s ∈ ks) (ht : 1 ≤ t) (hno : ∀ r, Cl ws r → t ≤ r.length)
    (least : ∀ z ∈ plcs ws, ∃ ks' f', Row ws z t ks' f' ∧ (z ∈ ks' → ¬ sg (f' z) < sg (f s))) : firstR ws = some (sg (f s)) := by
  obtain ⟨r, r1, r2, r3⟩ := R.val s hk
  have cl : Cl ws r := ⟨fun z => by rw [z] at r1; simp at r1; omega, s, r2⟩
  have is : IsR ws r := by
    refine ⟨cl, fun q hq => by rw [r1]; exact hno q hq, fun q hq hl z => ?_⟩
    obtain ⟨qn, s2, hp⟩ := hq
    have hs2 : s2 ∈ plcs ws := by
      cases q with
      | nil => exact absurd rfl qn
      | cons x q => exact hp.2.1 ▸ beg_mem hp.1
    obtain ⟨ks', f', R2, hl2⟩ := least s2 hs2
    have k2 : s2 ∈ ks' := (R2.mem s2).mpr ⟨q, hl.trans r1, hp⟩
    have a := R2.least s2 k2 q (hl.trans r1) hp
    have b := hl2 k2
    rw [r3] at b
    exact List.not_lt.mpr (List.le_trans (List.not_lt.mp b) (List.not_lt.mp a)) z
  rw [r3]
  exact firstR_some is
theorem dp_no2 {t : Nat} (hR : ∀ s ∈ plcs ws, ∃ ks f, Row ws s t ks f ∧ s ∉ ks) (hno : ∀ r, Cl ws r → t ≤ r.length) : ∀ r, Cl ws r → t + 1 ≤ r.length := fun r hr => by
  have h := hno r hr
  by_cases e : r.length = t
  · obtain ⟨qn, s2, hp⟩ := hr
    have hs2 : s2 ∈ plcs ws := by
      cases r with
      | nil => exact absurd rfl qn
      | cons x q => exact hp.2.1 ▸ beg_mem hp.1
    obtain ⟨ks, f, R, hk⟩ := hR s2 hs2
    exact absurd ((R.mem s2).mpr ⟨r, e, hp⟩) hk
  · omega
theorem dp_none (hno : ∀ r, Cl ws r → (ded (plcs ws)).length + 1 ≤ r.length) : firstR ws = none := by
  refine firstR_none fun r hr => ?_
  obtain ⟨n, ⟨q, hq, hl⟩, hm⟩ := ex_least (p := fun n => ∃ q, Cl ws q ∧ q.length = n) ⟨r.length, r, hr, rfl⟩
  have := short_le hq fun u hu => by rw [hl]; exact hm _ ⟨u, hu, rfl⟩
  have := hno q hq
  omega
/-! ### a road to a new window -/
inductive Pth (pr : Str → Str) (w : Str) : Str → List Str → Prop
  | nil : Pth pr w w []
  | snoc {s : Str} {l : List Str} : s ≠ w → Pth pr w (pr s) l → Pth pr w s (l ++ [s])
theorem Pth.inv {pr : Str → Str} {w s : Str} {l : List Str} (h : Pth pr w s l) : (s = w ∧ l = []) ∨ ∃ l1, l = l1 ++ [s] ∧ s ≠ w ∧ Pth pr w (pr s) l1 := by
  cases h with
  | nil => exact .inl ⟨rfl, rfl⟩
  | snoc hn hp => exact .inr ⟨_, rfl, hn, hp⟩
theorem Pth.mono {pr pr' : Str → Str} {w : Str} {ks : List Str} (h : ∀ z ∈ ks, pr' z = pr z) : ∀ {s : Str} {l : List Str}, Pth pr w s l → (∀ z ∈ l, z ∈ ks) → Pth pr' w s l := by
  intro s l p
  induction p with
  | nil => exact fun _ => .nil
  | snoc hn _ ih =>
    intro hl
    refine .snoc hn ?_
    rw [h _ (hl _ (by simp))]
    exact ih fun z hz => hl z (List.mem_append_left _ hz)
/-- found from the window w on: all of them are taken; i: the place that is looked at -/
structure Nw (ws tk : List Str) (w : Str) (ks : List Str) (pr : Str → Str) (i : Nat) : Prop where
  nd : ks.Nodup
  mem : w ∈ ks
  sub : ∀ s ∈ ks, s ∈ ws ∧ s ∈ tk
  chn : ∀ s ∈ ks, ∃ l, Pth pr w s l ∧ (∀ z ∈ l, z ∈ ks) ∧ l.length < ks.length ∧ Path ws (endS w) l (endS s)
  cls : ∀ (j : Nat) (p : Str), j < i → ks[j]? = some p → ∀ t ∈ outs ws (endS p), t ∈ ks
theorem Nw.start {tk : List Str} {w : Str} {pr : Str → Str} (hw : w ∈ ws) (ht : w ∈ tk) : Nw ws tk w [w] pr 0 :=
  ⟨nodup_one w, List.mem_singleton.mpr rfl, fun s hs => by rw [List.mem_singleton.mp hs]; exact ⟨hw, ht⟩, fun s hs => by rw [List.mem_singleton.mp hs]; exact ⟨[], .nil, fun z hz => (List.not_mem_nil hz).elim, Nat.zero_lt_one, rfl⟩, fun j p hj => absurd hj (Nat.not_lt_zero _)⟩
theorem Nw.road {tk ks : List Str} {w p t : Str} {pr : Str → Str} {i : Nat} (N : Nw ws tk w ks pr i) (hp : p ∈ ks) (ht : t ∈ outs ws (endS p)) (hn : t ∉ ks) :
    ∃ l, Pth (fun z => if z = t then p else pr z) w t (l ++ [t]) ∧ (∀ z ∈ l, z ∈ ks) ∧ l.length < ks.length ∧ Path ws (endS w) (l ++ [t]) (endS t) := by
  obtain ⟨l, l1, l2, l3, l4⟩ := N.chn p hp
  have old : ∀ z ∈ ks, (if z = t then p else pr z) = pr z := fun z hz => if_neg fun (e : z = t) => hn (by rw [← e]; exact hz)
  obtain ⟨h1, h2⟩ := outs_mem.mp ht
  refine ⟨l, .snoc (fun e => hn (by rw [e]; exact N.mem)) ?_, l2, l3, path_snoc.mpr ⟨by rw [h2]; exact l4, h1, rfl⟩⟩
  show Pth _ w (if t = t then p else pr t) l
  rw [if_pos rfl]
  exact Pth.mono old l1 l2
theorem Nw.put {tk ks : List Str} {w p t : Str} {pr : Str → Str} {i : Nat} (N : Nw ws tk w ks pr i) (hi : i ≤ ks.length) (hp : p ∈ ks) (ht : t ∈ outs ws (endS p)) (hn : t ∉ ks) (hk : t ∈ tk) : Nw ws tk w (ks ++ [t]) (fun z => if z = t then p else pr z) i := by
  have old : ∀ z ∈ ks, (if z = t then p else pr z) = pr z := fun z hz => if_neg fun (e : z = t) => hn (by rw [← e]; exact hz)
  refine ⟨List.nodup_append.mpr ⟨N.nd, nodup_one t, fun a ha b hb e => hn (by rw [← List.mem_singleton.mp hb, ← e]; exact ha)⟩, List.mem_append_left _ N.mem, fun s hs => ?_, fun s hs => ?_, fun j q hj hq u hu => ?_⟩
  · rcases List.mem_append.mp hs with hs | hs
    · exact N.sub s hs
    · rw [List.mem_singleton.mp hs]
      exact ⟨(outs_mem.mp ht).1, hk⟩
  · rcases List.mem_append.mp hs with hs | hs
    · obtain ⟨l, l1, l2, l3, l4⟩ := N.chn s hs
      exact ⟨l, Pth.mono old l1 l2, fun z hz => List.mem_append_left _ (l2 z hz), by rw [List.length_append]; omega, l4⟩
    · rw [List.mem_singleton.mp hs]
      obtain ⟨l, l1, l2, l3, l4⟩ := N.road hp ht hn
      refine ⟨l ++ [t], l1, fun z hz => ?_, by rw [List.length_append, List.length_append]; simp; exact l3, l4⟩
      rcases List.mem_append.mp hz with hz | hz
      · exact List.mem_append_left _ (l2 z hz)
      · exact List.mem_append_right _ hz
  · rw [List.getElem?_append_left (by omega)] at hq
    exact List.mem_append_left _ (N.cls j q hj hq u hu)
theorem Nw.next {tk ks : List Str} {w p : Str} {pr : Str → Str} {i : Nat} (N : Nw ws tk w ks pr i) (hp : ks[i]? = some p) (h : ∀ t ∈ outs ws (endS p), t ∈ ks) : Nw ws tk w ks pr (i + 1) :=
  ⟨N.nd, N.mem, N.sub, N.chn, fun j q hj hq t ht => by
    by_cases hji : j = i
    · subst hji
      rw [hp] at hq
      cases hq
      exact h t ht
    · exact N.cls j q (by omega) hq t ht⟩
theorem Nw.over {tk ks : List Str} {w : Str} {pr : Str → Str} {i : Nat} (N : Nw ws tk w ks pr i) (hi : ks.length ≤ i) (hh : Hang ws) (nd : ws.Nodup) : ws.length ≤ tk.length := by
  have hw : w ∈ ws := (N.sub w N.mem).1
  have cls : ∀ p ∈ ks, ∀ t ∈ outs ws (endS p), t ∈ ks := fun p hp t ht => by
    obtain ⟨j, hj, e⟩ := List.mem_iff_getElem.mp hp
    exact N.cls j p (by omega) (by rw [List.getElem?_eq_getElem hj, e]) t ht
  have rch : ∀ q, Rch (nxts ws) (endS w) q → ∃ s ∈ ks, endS s = q := fun q h => by
    induction h with
    | refl => exact ⟨w, N.mem, rfl⟩
    | step _ h2 ih =>
      obtain ⟨s, hs, rfl⟩ := ih
      obtain ⟨y, hy, hb, he⟩ := nxts_mem.mp h2
      exact ⟨y, cls s hs y (outs_mem.mpr ⟨hy, hb⟩), he⟩
  refine nodup_len nd fun x hx => ?_
  obtain ⟨s, hs, he⟩ := rch _ (hh _ (end_mem hw) _ (beg_mem hx))
  exact (N.sub x (cls s hs x (outs_mem.mpr ⟨hx, he.symm⟩))).2
end
end My

/-! dicts walked by their keys; dicts made at once; lists of things made at once -/
namespace My
open PySem PySem.Spec PyProof.Rows L2 Evl
theorem src_keys {Hb : Hp} {d : Addr} {o : Obj} {f : Str → V} {ks : List Str} (h : Hb d = some (.frz o (.dK (fkv f ks)))) : Src (Itk d o (fkv f ks)) Hb ks.length (fun i x _ => ∃ z, ks[i]? = some z ∧ x = .str z) := by
  have l : (fkv f ks).length = ks.length := fkv_len f ks
  refine ⟨fun i H2 e hi => ⟨e _ _ h, by rw [l]; exact hi⟩, fun i H2 e hi => ⟨e _ _ h, by rw [l]; exact hi⟩, fun i H2 x H3 e hi y => ?_⟩
  obtain ⟨rfl, k, v, hk, rfl⟩ := y
  refine ⟨Ex.refl _, ?_⟩
  unfold fkv at hk
  rw [List.getElem?_map] at hk
  cases hz : ks[i]? with
  | none =>
    rw [hz] at hk
    cases hk
  | some z =>
    rw [hz] at hk
    cases hk
    exact ⟨z, rfl, rfl⟩
/-- a thing locked, and set free again -/
theorem unlock_ex {H H' : Hp} {d : Addr} {u o : HO} (h : H d = some u) (e : Ex (upd H d o) H') : Ex H (upd H' d u) := fun q w hq => by
  by_cases hd : q = d
  · rw [hd, upd_same]
    rw [hd, h] at hq
    exact hq
  · rw [upd_ne hd]
    exact e q w (by rw [upd_ne hd]; exact hq)
theorem lock_at {H : Hp} {d q : Addr} {u o w : HO} (h : H d = some u) (hq : H q = some w) (n : w ≠ u) : (upd H d o) q = some w := by
  rw [upd_ne fun e => n (by rw [e, h] at hq; exact (Option.some.inj hq).symm)]
  exact hq
section
variable {K : PySem.W.Frag} {H : Hp} {p : Addr} {o : Obj} {kvs : List (Key × V)} {u : HO}
theorem sqT_un (hp : H p = some (.frz o (.dK kvs))) {a : Addr} {xs : List V} (h : SqT K H a xs) : SqT K (upd H p u) a xs := by
  have ne : ∀ {w : HO}, H a = some w → w ≠ .frz o (.dK kvs) → (upd H p u) a = some w := fun {w} hw n => by
    rw [upd_ne fun e => n (by rw [e, hp] at hw; exact (Option.some.inj hw).symm)]
    exact hw
  unfold SqT at h ⊢
  first
    | exact h.elim (fun q => .inl (ne q (fun z => nomatch z))) fun q => .inr q
    | exact h.elim (fun q => .inl (q.elim (fun q => .inl (ne q (fun z => nomatch z))) fun ⟨ob, q⟩ => .inr ⟨ob, ne q (fun z => by cases z)⟩)) fun q => .inr q
theorem sqL_un (hp : H p = some (.frz o (.dK kvs))) {a : Addr} {xs : List V} (h : SqL K H a xs) : SqL K (upd H p u) a xs := by
  have ne : ∀ {w : HO}, H a = some w → w ≠ .frz o (.dK kvs) → (upd H p u) a = some w := fun {w} hw n => by
    rw [upd_ne fun e => n (by rw [e, hp] at hw; exact (Option.some.inj hw).symm)]
    exact hw
  unfold SqL at h ⊢
  first
    | exact h.elim (fun q => .inl (q.elim (fun q => .inl (ne q (fun z => nomatch z))) fun ⟨ob, q⟩ => .inr ⟨ob, ne q (fun z => by cases z)⟩)) fun q => .inr q
    | exact h.elim (fun q => .inl (ne q (fun z => nomatch z))) fun q => .inr q
mutual
theorem dp_un (hp : H p = some (.frz o (.dK kvs))) : ∀ {v : V} {d : PyData}, Dp K H v d → Dp K (upd H p u) v d
  | _, _, .non => .non
  | _, _, .bl b => .bl b
  | _, _, .int i => .int i
  | _, _, .str x => .str x
  | _, _, .lst h ha => .lst (sqL_un hp h) (dpa_un hp ha)
  | _, _, .tup h ha => .tup (sqT_un hp h) (dpa_un hp ha)
theorem dpa_un (hp : H p = some (.frz o (.dK kvs))) : ∀ {vs : List V} {ds : List PyData}, DpAll K H vs ds → DpAll K (upd H p u) vs ds
  | _, _, .nil => .nil
  | _, _, .cons h t => .cons (dp_un hp h) (dpa_un hp t)
end
end
/-! ### a comprehension over a dict's keys -/
theorem lk_lc {K : PySem.W.Frag} {H : Hp} {d : Addr} {f : Str → V} {ks : List Str} {td : TE} {g : TG} {tt : TT} {te : TE} {vs : List Nat} {σ : L2.St} {Q : VK} (hd : H d = some (.dK (fkv f ks))) (hn : ks.length ≤ 1000000)
    (htd : ∀ (od : Obj) (R : VK), R (.ref d) (upd H d (.frz od (.dK (fkv f ks)))) → td σ (upd H d (.frz od (.dK (fkv f ks)))) R) (p : Str → Bool) (F : Str → PyData) (nl : ∀ z ∈ ks, noList (F z) = true)
    (hs : ∀ od : Obj, LcsTurn K (upd H d (.frz od (.dK (fkv f ks)))) ks g tt te vs σ p F) (q : ∀ D H' acc, Ex H H' → H D = none → H' D = some (.lst acc) → DpAll K H' acc ((ks.filter p).map F) → Q (.ref D) H') :
    tLockE (tLc (iKeys td) g tt te vs) σ H Q := by
  refine ⟨d, _, hd, trivial, fun od => htd od _ ⟨d, od, rfl, .inl ⟨_, upd_same, fun D np => ?_⟩⟩⟩
  have nD : H D = none := by
    rw [upd_ne fun e => by rw [e, upd_same] at np; cases np] at np
    exact np
  refine lc_src (K := K) (src_keys upd_same) hn (fun i => p (atS ks i)) (fun i => F (atS ks i)) (fun i hi => ?_) np (fun i x H2 Y Z hi e it hy hno => ?_) (fun H' acc e hD ha => ?_)
  · rw [atS_of (List.getElem?_eq_getElem hi)]
    exact nl _ (List.getElem_mem hi)
  · obtain ⟨z, hz, rfl⟩ := it
    rw [atS_of hz] at hy hno
    exact hs od z H2 Y Z (List.mem_of_getElem? hz) e hy hno
  · rw [givenS] at ha
    have hd' := e _ _ upd_same
    have Dd : D ≠ d := fun z => by
      rw [z, hd] at nD
      cases nD
    exact ⟨hd', q D _ acc (unlock_ex hd e) nD (by rw [upd_ne Dd]; exact hD) (dpa_un hd' ha)⟩
/-- a for over a dict's keys; what Pv says is of the heap with the dict locked -/
theorem lk_fo {H : Hp} {d : Addr} {f : Str → V} {ks : List Str} {td : TE} {g : TG} {tb : TS} {σ : L2.St} {D : Ends} (hd : H d = some (.dK (fkv f ks)))
    (htd : ∀ (od : Obj) (R : VK), R (.ref d) (upd H d (.frz od (.dK (fkv f ks)))) → td σ (upd H d (.frz od (.dK (fkv f ks)))) R) (Pv : Obj → Nat → L2.St → Hp → Prop) (h0 : ∀ od, Pv od 0 σ (upd H d (.frz od (.dK (fkv f ks)))))
    (hE : ∀ od i σ H', Pv od i σ H' → H' d = some (.frz od (.dK (fkv f ks))))
    (hs : ∀ (od : Obj) (i : Nat) (z : Str) (σ' : L2.St) (H' : Hp), ks[i]? = some z → Pv od i σ' H' → g (.str z) σ' H' fun σ2 H3 => tb { nx := Pv od (i + 1), ct := Pv od (i + 1), bk := fun σ3 H4 => H4 d = some (.frz od (.dK (fkv f ks))) ∧ D.nx σ3 (upd H4 d (.dK (fkv f ks))), rt := fun v H4 => H4 d = some (.frz od (.dK (fkv f ks))) ∧ D.rt v (upd H4 d (.dK (fkv f ks))) } σ2 H3)
    (he : ∀ od σ' H', Pv od ks.length σ' H' → D.nx σ' (upd H' d (.dK (fkv f ks)))) : tLock (tFor (iKeys td) g tb) D σ H := by
  refine ⟨d, _, hd, trivial, fun od => htd od _ ⟨d, od, rfl, .inl ⟨_, upd_same, ?_⟩⟩⟩
  have l : (fkv f ks).length = ks.length := fkv_len f ks
  refine ⟨fun i m σ H => m = ks.length - i ∧ i ≤ ks.length ∧ Pv od i σ H, ⟨_, rfl, Nat.zero_le _, h0 od⟩, ?_⟩
  rintro i m σ1 H1 ⟨rfl, hi, pv⟩
  have hf := hE od i σ1 H1 pv
  by_cases hlt : i < ks.length
  · refine .inr ⟨⟨hf, by rw [l]; exact hlt⟩, Pv od (i + 1), fun σ' H' p' => ⟨ks.length - (i + 1), by omega, rfl, hlt, p'⟩, fun x H' y => ?_⟩
    obtain ⟨rfl, k, v, hk, rfl⟩ := y
    have hz : ks[i]? = some ks[i] := List.getElem?_eq_getElem hlt
    unfold fkv at hk
    rw [List.getElem?_map, hz] at hk
    cases hk
    exact hs od i _ σ1 H' hz pv
  · obtain rfl : i = ks.length := by omega
    exact .inl ⟨⟨hf, by rw [l]; exact Nat.le_refl _⟩, hf, he od σ1 H1 pv⟩
/-! ### a dict made at once, its values new things -/
abbrev DcGo (J : It) (H1 : Hp) (g : TG) (tt : TT) (tk tv : TE) (vs : List Nat) (σ : L2.St) (D : Addr) (Qd : Hp → Prop) : Prop := ∃ W : Nat → Nat → Hp → Prop, (∃ m, W 0 m (upd H1 D (.dK []))) ∧ ∀ i m H, W i m H →
  (J.stop i H ∧ Qd H) ∨ (J.go i H ∧ ∃ Nx : Hp → Prop, (∀ H', Nx H' → ∃ m', m' < m ∧ W (i + 1) m' H') ∧ ∀ x H', J.yld i H x H' → g x (wipe σ vs) H' fun σ2 H2 => wipe σ2 vs = wipe σ vs ∧ tt σ2 H2 fun b H3 =>
    if b = true then tk σ2 H3 fun y H4 => tv σ2 H4 fun z H5 => ∃ kvs k, y = kV k ∧ H5 D = some (.dK kvs) ∧ kvs.length < sizeLine ∧ Nx (upd H5 D (.dK (putK kvs k z))) else Nx H3)
theorem wkv_put {rs : Str → Addr} {ks : List Str} {k : Str} {a : Addr} : putK (wkv rs ks) (kS k) (V.ref a) = wkv (fun z => if z = k then a else rs z) (addS ks k) := by
  have h := fkv_put (f := fun z => V.ref (rs z)) (ks := ks) (k := k) (v := V.ref a)
  have e : (fun z => if z = k then V.ref a else V.ref (rs z)) = fun z => V.ref (if z = k then a else rs z) := funext fun z => by
    by_cases hz : z = k
    · rw [if_pos hz, if_pos hz]
    · rw [if_neg hz, if_neg hz]
  rw [e] at h
  exact h
theorem dc_refs {J : It} {H1 : Hp} {ks : List Str} {g : TG} {tt : TT} {tk tv : TE} {vs : List Nat} {σ : L2.St} {D : Addr} {Qd : Hp → Prop} (S : Src J H1 (ks.map V.str).length (fun i x _ => (ks.map V.str)[i]? = some x)) (nd : ks.Nodup) (hn : ks.length ≤ 1000000) (O : Str → HO → Prop) (np : H1 D = none)
    (hs : ∀ (z : Str) (H2 : Hp) (C : V → V → Hp → Prop) (Z : Hp → Prop), z ∈ ks → Ex H1 H2 → (∀ a o H3, Ex H2 H3 → H2 a = none → H3 a = some o → O z o → C (.str z) (.ref a) H3) →
      g (.str z) (wipe σ vs) H2 fun σ2 H3 => wipe σ2 vs = wipe σ vs ∧ tt σ2 H3 fun b H4 => if b = true then tk σ2 H4 fun y H5 => tv σ2 H5 fun v H6 => C y v H6 else Z H4)
    (hd : ∀ H' rs, Ex H1 H' → H' D = some (.dK (wkv rs ks)) → (∀ z ∈ ks, rs z ≠ D ∧ ∃ o, H' (rs z) = some o ∧ O z o) → Qd H') : DcGo J H1 g tt tk tv vs σ D Qd := by
  have big : 1000000 < sizeLine := by decide
  let Pv : Nat → Hp → Prop := fun i H => Ex H1 H ∧ ∃ rs : Str → Addr, H D = some (.dK (wkv rs (ks.take i))) ∧ ∀ z ∈ ks.take i, rs z ≠ D ∧ ∃ o, H (rs z) = some o ∧ O z o
  have lm : (ks.map V.str).length = ks.length := List.length_map ..
  rw [lm] at S
  refine ⟨fun i m H => m = ks.length - i ∧ i ≤ ks.length ∧ Pv i H, ⟨_, rfl, Nat.zero_le _, Ex.new np, fun _ => 0, upd_same, fun z hz => (List.not_mem_nil hz).elim⟩, ?_⟩
  rintro i m H ⟨rfl, hi, e, rs, hD, hR⟩
  by_cases hlt : i < ks.length
  · refine .inr ⟨S.go i H e hlt, Pv (i + 1), fun H' p' => ⟨ks.length - (i + 1), by omega, rfl, hlt, p'⟩, fun x H' y => ?_⟩
    obtain ⟨e2, it⟩ := S.yld i H x H' e hlt y
    obtain ⟨z, hz, rfl⟩ := str_at it
    have znew : z ∉ ks.take i := fun h => by
      have h2 : (ks.take (i + 1)).Nodup := (List.take_sublist _ _).nodup nd
      rw [take_snoc hz] at h2
      exact (List.nodup_append.mp h2).2.2 z h z (List.mem_singleton.mpr rfl) rfl
    refine hs z H' _ _ (List.mem_of_getElem? hz) (e.trans e2) fun a o H3 e3 na ha ho => ?_
    have hD2 := e2 _ _ hD
    have hD3 := e3 _ _ hD2
    have aD : a ≠ D := ne_free hD2 na
    refine ⟨_, kS z, rfl, hD3, by rw [wkv_len, List.length_take]; omega, Ex.mut (e.trans (e2.trans e3)) np, fun y => if y = z then a else rs y, ?_, fun y hy => ?_⟩
    · rw [upd_same, wkv_put, addS, if_neg znew, take_snoc hz]
    · rw [take_snoc hz] at hy
      show (if y = z then a else rs y) ≠ D ∧ ∃ o, (upd H3 D _) (if y = z then a else rs y) = some o ∧ O y o
      by_cases hyz : y = z
      · rw [if_pos hyz, upd_ne aD, hyz]
        exact ⟨aD, o, ha, ho⟩
      · have hy2 : y ∈ ks.take i := (List.mem_append.mp hy).elim (fun h => h) fun h => absurd (List.mem_singleton.mp h) hyz
        obtain ⟨n1, o1, h1, h2⟩ := hR y hy2
        rw [if_neg hyz, upd_ne n1]
        exact ⟨n1, o1, (e2.trans e3) _ _ h1, h2⟩
  · obtain rfl : i = ks.length := by omega
    rw [List.take_length] at hD hR
    exact .inl ⟨S.stop _ H e (Nat.le_refl _), hd H rs e hD hR⟩
/-! ### a list of things made at once -/
inductive Two {α β : Type} (R : α → β → Prop) : List α → List β → Prop
  | nil : Two R [] []
  | cons {a : α} {b : β} {as : List α} {bs : List β} : R a b → Two R as bs → Two R (a :: as) (b :: bs)
theorem Two.snoc {α β : Type} {R : α → β → Prop} {a : α} {b : β} (h : R a b) : ∀ {as : List α} {bs : List β}, Two R as bs → Two R (as ++ [a]) (bs ++ [b])
  | _, _, .nil => .cons h .nil
  | _, _, .cons h1 t => .cons h1 (Two.snoc h t)
theorem Two.imp {α β : Type} {R R' : α → β → Prop} (h : ∀ a b, R a b → R' a b) : ∀ {as : List α} {bs : List β}, Two R as bs → Two R' as bs
  | _, _, .nil => .nil
  | _, _, .cons h1 t => .cons (h _ _ h1) (Two.imp h t)
theorem Two.len {α β : Type} {R : α → β → Prop} : ∀ {as : List α} {bs : List β}, Two R as bs → bs.length = as.length
  | _, _, .nil => rfl
  | _, _, .cons _ t => by rw [List.length_cons, List.length_cons, Two.len t]
theorem Two.at {α β : Type} {R : α → β → Prop} : ∀ {as : List α} {bs : List β} {i : Nat} {b : β}, Two R as bs → bs[i]? = some b → ∃ a, as[i]? = some a ∧ R a b
  | _, _, _, _, .nil, h => by simp at h
  | _, _, 0, b, .cons (b := b1) h1 _, h => by
    simp at h
    exact ⟨_, rfl, h ▸ h1⟩
  | _, _, i + 1, b, .cons _ t, h => by
    obtain ⟨a, h1, h2⟩ := Two.at t (i := i) (by simpa using h)
    exact ⟨a, by simpa using h1, h2⟩
theorem Two.get {α β : Type} {R : α → β → Prop} : ∀ {as : List α} {bs : List β} {i : Nat} {a : α}, Two R as bs → as[i]? = some a → ∃ b, bs[i]? = some b ∧ R a b
  | _, _, _, _, .nil, h => by simp at h
  | _, _, 0, b, .cons h1 _, h => by
    simp at h
    exact ⟨_, rfl, h ▸ h1⟩
  | _, _, i + 1, b, .cons _ t, h => by
    obtain ⟨a, h1, h2⟩ := Two.get t (i := i) (by simpa using h)
    exact ⟨a, by simpa using h1, h2⟩
theorem lc_gen {J : It} {H1 : Hp} {n : Nat} {item : Nat → V → Hp → Prop} {g : TG} {tt : TT} {te : TE} {vs : List Nat} {σ : L2.St} {D : Addr} {Qd : Hp → Prop} (S : Src J H1 n item) (hn : n ≤ 1000000) (np : H1 D = none) (f : Nat → Bool) (R : Nat → V → Hp → Prop)
    (Rx : ∀ i v H H', R i v H → Ex H H' → R i v H') (Rm : ∀ i v H acc acc', H D = some (.lst acc) → R i v H → R i v (upd H D (.lst acc')))
    (hs : ∀ (i : Nat) (x : V) (H2 : Hp) (Y : VK) (Z : Hp → Prop), i < n → Ex H1 H2 → item i x H2 → (f i = true → ∀ y H3, Ex H2 H3 → R i y H3 → Y y H3) → (f i = false → ∀ H3, Ex H2 H3 → Z H3) →
      g x (wipe σ vs) H2 fun σ2 H3 => wipe σ2 vs = wipe σ vs ∧ tt σ2 H3 fun b H4 => if b = true then te σ2 H4 Y else Z H4)
    (hd : ∀ H' acc, Ex H1 H' → H' D = some (.lst acc) → Two (fun i v => R i v H') ((List.range n).filter f) acc → Qd H') : LcGo J H1 g tt te vs σ D Qd := by
  have big : 1000000 < sizeLine := by decide
  let Pv : Nat → Hp → Prop := fun i H => Ex H1 H ∧ ∃ acc, H D = some (.lst acc) ∧ Two (fun i v => R i v H) ((List.range i).filter f) acc
  refine ⟨fun i m H => m = n - i ∧ i ≤ n ∧ Pv i H, ⟨n, by simp, Nat.zero_le _, Ex.new np, [], upd_same, .nil⟩, ?_⟩
  rintro i m H ⟨rfl, hi, e, acc, hD, ha⟩
  by_cases hlt : i < n
  · refine .inr ⟨S.go i H e hlt, Pv (i + 1), fun H' p' => ⟨n - (i + 1), by omega, rfl, hlt, p'⟩, fun x H' y => ?_⟩
    obtain ⟨e2, it⟩ := S.yld i H x H' e hlt y
    refine hs i x H' _ _ hlt (e.trans e2) it (fun hf z H6 e6 hz => ?_) (fun hf H5 e5 => ?_)
    · have e46 : Ex H H6 := e2.trans e6
      have h6 : H6 D = some (.lst acc) := e46 _ _ hD
      refine ⟨acc, h6, ?_, Ex.mut (e.trans e46) np, acc ++ [z], upd_same, ?_⟩
      · have l1 := ha.len
        have l2 := List.length_filter_le f (List.range i)
        rw [List.length_range] at l2
        omega
      · rw [List.range_succ, List.filter_append, List.filter_cons_of_pos hf]
        exact Two.snoc (R := fun j v => R j v (upd H6 D (.lst (acc ++ [z])))) (Rm i z H6 _ _ h6 hz) (ha.imp fun j v h => Rm j v H6 _ _ h6 (Rx j v H H6 h e46))
    · refine ⟨e.trans (e2.trans e5), acc, e5 _ _ (e2 _ _ hD), ?_⟩
      rw [List.range_succ, List.filter_append, List.filter_cons_of_neg (by rw [hf]; exact Bool.false_ne_true), List.filter_nil, List.append_nil]
      exact ha.imp fun j v h => Rx j v H _ h (e2.trans e5)
  · obtain rfl : i = n := by omega
    exact .inl ⟨S.stop i H e (Nat.le_refl _), hd H acc e hD ha⟩
/-! ### a dict of tuples of texts -/
def Td (K : PySem.W.Frag) (H : Hp) (d : Addr) (ks : List Str) (f : Str → List Str) : Prop := ∃ rs : Str → Addr, H d = some (.dK (wkv rs ks)) ∧ ∀ k ∈ ks, SqT K H (rs k) ((f k).map V.str)
theorem sqT_put {K : PySem.W.Frag} {H : Hp} {p a : Addr} {kvs : List (Key × V)} {u : HO} {xs : List V} (hp : H p = some (.dK kvs)) (h : SqT K H a xs) : SqT K (upd H p u) a xs := by
  have ne : ∀ {w : HO}, H a = some w → w ≠ .dK kvs → (upd H p u) a = some w := fun {w} hw n => by
    rw [upd_ne fun e => n (by rw [e, hp] at hw; exact (Option.some.inj hw).symm)]
    exact hw
  unfold SqT at h ⊢
  first
    | exact h.elim (fun q => .inl (ne q (fun z => nomatch z))) fun q => .inr q
    | exact h.elim (fun q => .inl (q.elim (fun q => .inl (ne q (fun z => nomatch z))) fun ⟨ob, q⟩ => .inr ⟨ob, ne q (fun z => by cases z)⟩)) fun q => .inr q
theorem Td.put {K : PySem.W.Frag} {H : Hp} {L c : Addr} {rs : Str → Addr} {ks : List Str} {f f' : Str → List Str} {k : Str} (h : H L = some (.dK (wkv rs ks))) (hr : ∀ y ∈ ks, SqT K H (rs y) ((f y).map V.str)) (hc : SqT K H c ((f' k).map V.str)) (same : ∀ y ∈ ks, y ≠ k → f' y = f y) :
    Td K (upd H L (.dK (putK (wkv rs ks) (kS k) (.ref c)))) L (addS ks k) f' := by
  refine ⟨fun z => if z = k then c else rs z, by rw [upd_same, wkv_put], fun y hy => ?_⟩
  show SqT K _ (if y = k then c else rs y) _
  by_cases hyk : y = k
  · rw [if_pos hyk, hyk]
    exact sqT_put h hc
  · rw [if_neg hyk]
    rcases addS_mem.mp hy with hy | hy
    · rw [same y hy hyk]
      exact sqT_put h (hr y hy)
    · exact absurd hy hyk
/-- the dict at d has reached lists, read or locked -/
def Wr (H : Hp) (d : Addr) (ks : List Str) (f : Str → List Str) : Prop := ∃ rs : Str → Addr, Rd H d (.dK (wkv rs ks)) ∧ ∀ k ∈ ks, H (rs k) = some (.lst ((f k).map V.str))
theorem Wd.wr {H : Hp} {d : Addr} {ks : List Str} {f : Str → List Str} (w : Wd H d ks f) : Wr H d ks f := by
  obtain ⟨rs, h1, h2⟩ := w
  exact ⟨rs, .inl h1, h2⟩
theorem Wr.ex {H H' : Hp} {d : Addr} {ks : List Str} {f : Str → List Str} (e : Ex H H') (w : Wr H d ks f) : Wr H' d ks f := by
  obtain ⟨rs, h1, h2⟩ := w
  exact ⟨rs, h1.elim (fun q => .inl (e _ _ q)) fun ⟨o, q⟩ => .inr ⟨o, e _ _ q⟩, fun k hk => e _ _ (h2 k hk)⟩
theorem rd_get {H : Hp} {d : Addr} {kvs : List (Key × V)} {k : Key} (h : Rd H d (.dK kvs)) : DGet H d (kV k) (valV kvs k) := .inl ⟨kvs, k, h, rfl, rfl⟩
theorem rd_ex {H H' : Hp} {d : Addr} {u : HO} (e : Ex H H') (h : Rd H d u) : Rd H' d u := h.elim (fun q => .inl (e _ _ q)) fun ⟨o, q⟩ => .inr ⟨o, e _ _ q⟩
theorem Wr.get {H : Hp} {d : Addr} {ks : List Str} {f : Str → List Str} (w : Wr H d ks f) {k : Str} (hk : k ∈ ks) : ∃ r, (∀ H', Ex H H' → DGet H' d (.str k) (some (.ref r))) ∧ H r = some (.lst ((f k).map V.str)) := by
  obtain ⟨rs, h1, h2⟩ := w
  refine ⟨rs k, fun H' e => ?_, h2 k hk⟩
  rw [← wkv_val (rs := rs) hk]
  exact rd_get (k := kS k) (rd_ex e h1)
theorem Wr.lock {H : Hp} {d : Addr} {ks : List Str} {f : Str → List Str} {od : Obj} {rs : Str → Addr} (h : H d = some (.dK (wkv rs ks))) (hr : ∀ k ∈ ks, H (rs k) = some (.lst ((f k).map V.str))) : Wr (upd H d (.frz od (.dK (wkv rs ks)))) d ks f :=
  ⟨rs, .inr ⟨od, upd_same⟩, fun k hk => lock_at h (hr k hk) fun z => nomatch z⟩
end My

/-! lots in their order, arcs that join them -/
namespace My
open PySem PySem.Spec PyProof.Rows L2 Evl
/-! ### an order of m things -/
structure Po (m : Nat) (le : Nat → Nat → Prop) : Prop where
  rf : ∀ i, i < m → le i i
  tr : ∀ i j k, le i j → le j k → le i k
  an : ∀ i j, le i j → le j i → i = j
  lt : ∀ i j, le i j → i < m ∧ j < m
def flip2 (le : Nat → Nat → Prop) : Nat → Nat → Prop := fun i j => le j i
theorem Po.flip {m : Nat} {le : Nat → Nat → Prop} (P : Po m le) : Po m (flip2 le) := ⟨P.rf, fun i j k a b => P.tr k j i b a, fun i j a b => P.an i j b a, fun i j a => ⟨(P.lt j i a).2, (P.lt j i a).1⟩⟩
def Mx (m : Nat) (le : Nat → Nat → Prop) (e : Nat) : Prop := e < m ∧ ∀ j, le e j → j = e
theorem len_lt {l1 l2 : List Nat} {x : Nat} (nd : l1.Nodup) (sub : ∀ y ∈ l1, y ∈ l2) (h1 : x ∉ l1) (h2 : x ∈ l2) : l1.length < l2.length := by
  have := nodup_len (ks := x :: l1) (l := l2) (List.nodup_cons.mpr ⟨h1, nd⟩) fun y hy => (List.mem_cons.mp hy).elim (fun e => e ▸ h2) (sub y)
  exact this
open Classical in
theorem Po.top {m : Nat} {le : Nat → Nat → Prop} (P : Po m le) {i : Nat} (hi : i < m) : ∃ e, Mx m le e ∧ le i e := by
  obtain ⟨n, ⟨e, he, hn⟩, hmin⟩ := ex_least (p := fun n => ∃ e, le i e ∧ ((List.range m).filter fun k => decide (le e k)).length = n) ⟨_, i, P.rf i hi, rfl⟩
  refine ⟨e, ⟨(P.lt i e he).2, fun j hj => ?_⟩, he⟩
  by_cases hje : j = e
  · exact hje
  · exfalso
    have h1 := hmin _ ⟨j, P.tr _ _ _ he hj, rfl⟩
    have em := (P.lt i e he).2
    have h2 : ((List.range m).filter fun k => decide (le j k)).length < ((List.range m).filter fun k => decide (le e k)).length := by
      refine len_lt (x := e) (List.nodup_range.filter _) (fun y hy => ?_) (fun h => ?_) ?_
      · obtain ⟨a, b⟩ := List.mem_filter.mp hy
        exact List.mem_filter.mpr ⟨a, decide_eq_true (P.tr _ _ _ hj (of_decide_eq_true b))⟩
      · exact hje (P.an _ _ (of_decide_eq_true (List.mem_filter.mp h).2) hj)
      · exact List.mem_filter.mpr ⟨List.mem_range.mpr em, decide_eq_true (P.rf e em)⟩
    omega
theorem Po.bot {m : Nat} {le : Nat → Nat → Prop} (P : Po m le) {i : Nat} (hi : i < m) : ∃ s, Mx m (flip2 le) s ∧ le s i := P.flip.top hi
/-! ### arcs between them -/
inductive Ga (le : Nat → Nat → Prop) (A : Nat → Nat → Prop) (i : Nat) : Nat → Prop
  | le {j : Nat} : le i j → Ga le A i j
  | arc {a b j : Nat} : Ga le A i a → A a b → le b j → Ga le A i j
def Sg (m : Nat) (le A : Nat → Nat → Prop) : Prop := ∀ i j, i < m → j < m → Ga le A i j
section
variable {m : Nat} {le A : Nat → Nat → Prop}
theorem Ga.on (P : Po m le) {i j k : Nat} (h : Ga le A i j) (h2 : le j k) : Ga le A i k := by
  cases h with
  | le h => exact .le (P.tr _ _ _ h h2)
  | arc h a b => exact .arc h a (P.tr _ _ _ b h2)
theorem Ga.trans (P : Po m le) {i j k : Nat} (h : Ga le A i j) (h2 : Ga le A j k) : Ga le A i k := by
  induction h2 with
  | le h2 => exact h.on P h2
  | arc _ a b ih => exact .arc ih a b
theorem Ga.mono {B : Nat → Nat → Prop} (h : ∀ a b, A a b → B a b) {i j : Nat} (g : Ga le A i j) : Ga le B i j := by
  induction g with
  | le h2 => exact .le h2
  | arc _ a b ih => exact .arc ih (h _ _ a) b
/-- the top is left by an arc, the bottom is come to by one -/
theorem Ga.out {e j : Nat} (he : Mx m le e) (h : Ga le A e j) : j = e ∨ ∃ b, A e b := by
  induction h with
  | le h => exact .inl (he.2 _ h)
  | arc _ a b ih =>
    rcases ih with rfl | h
    · exact .inr ⟨_, a⟩
    · exact .inr h
theorem Ga.into {s i : Nat} (hs : Mx m (flip2 le) s) (h : Ga le A i s) : i = s ∨ ∃ a, A a s := by
  cases h with
  | le h => exact .inl (hs.2 _ h)
  | arc _ a b =>
    have := hs.2 _ b
    subst this
    exact .inr ⟨_, a⟩
theorem other {m e : Nat} (h : 2 ≤ m) : ∃ j, j < m ∧ j ≠ e := by
  by_cases he : e = 0
  · exact ⟨1, by omega, by omega⟩
  · exact ⟨0, by omega, by omega⟩
theorem Sg.out (h2 : 2 ≤ m) (S : Sg m le A) {e : Nat} (he : Mx m le e) : ∃ b, A e b := by
  obtain ⟨j, hj, hne⟩ := other (e := e) h2
  exact ((S e j he.1 hj).out he).resolve_left hne
theorem Sg.into (h2 : 2 ≤ m) (S : Sg m le A) {s : Nat} (hs : Mx m (flip2 le) s) : ∃ a, A a s := by
  obtain ⟨j, hj, hne⟩ := other (e := s) h2
  exact ((S j s hj hs.1).into hs).resolve_left hne
/-- one arc -/
def Arc1 (a b : Nat) : Nat → Nat → Prop := fun i j => i = a ∧ j = b
/-- two arcs -/
def Arc2 (a b c d : Nat) : Nat → Nat → Prop := fun i j => (i = a ∧ j = b) ∨ (i = c ∧ j = d)
theorem sg_one (P : Po m le) {e s : Nat} (hm : ∀ i, Mx m le i → i = e) (hn : ∀ i, Mx m (flip2 le) i → i = s) : Sg m le (Arc1 e s) := fun i j hi hj => by
  obtain ⟨t, ht, hit⟩ := P.top hi
  obtain ⟨b, hb, hbj⟩ := P.bot hj
  rw [hm t ht] at hit
  rw [hn b hb] at hbj
  exact .arc (.le hit) ⟨rfl, rfl⟩ hbj
theorem one_sg (h2 : 2 ≤ m) {a b : Nat} (S : Sg m le (Arc1 a b)) : (∀ i, Mx m le i → i = a) ∧ ∀ i, Mx m (flip2 le) i → i = b := by
  refine ⟨fun i hi => ?_, fun i hi => ?_⟩
  · obtain ⟨_, h, _⟩ := S.out h2 hi
    exact h
  · obtain ⟨_, _, h⟩ := S.into h2 hi
    exact h
theorem two_sg (h2 : 2 ≤ m) {a b c d : Nat} (S : Sg m le (Arc2 a b c d)) : (∀ i, Mx m le i → i = a ∨ i = c) ∧ ∀ i, Mx m (flip2 le) i → i = b ∨ i = d := by
  refine ⟨fun i hi => ?_, fun i hi => ?_⟩
  · obtain ⟨_, h | h⟩ := S.out h2 hi
    · exact .inl h.1
    · exact .inr h.1
  · obtain ⟨_, h | h⟩ := S.into h2 hi
    · exact .inl h.2
    · exact .inr h.2
theorem two_swap {a b c d : Nat} (S : Sg m le (Arc2 a b c d)) : Sg m le (Arc2 c d a b) := fun i j hi hj => (S i j hi hj).mono fun _ _ h => h.symm
/-- an arc that the order has is of no use -/
theorem two_idle (P : Po m le) {a b c d : Nat} (h : le a b) (S : Sg m le (Arc2 a b c d)) : Sg m le (Arc1 c d) := fun i j hi hj => by
  have g := S i j hi hj
  clear hj S
  induction g with
  | le h => exact .le h
  | arc _ x y ih =>
    rcases x with ⟨rfl, rfl⟩ | ⟨rfl, rfl⟩
    · exact ih.on P (P.tr _ _ _ h y)
    · exact .arc ih ⟨rfl, rfl⟩ y
theorem two_same {a b : Nat} (S : Sg m le (Arc2 a b a b)) : Sg m le (Arc1 a b) := fun i j hi hj => (S i j hi hj).mono fun _ _ h => h.elim id id
/-- what two arcs let come to -/
def Com (le : Nat → Nat → Prop) (a b c d : Nat) (j : Nat) : Prop := le 0 j ∨ (le 0 a ∧ le b j) ∨ (le 0 c ∧ le d j) ∨ (le 0 a ∧ le b c ∧ le d j) ∨ (le 0 c ∧ le d a ∧ le b j)
theorem com_ga (P : Po m le) {a b c d j : Nat} : Com le a b c d j ↔ Ga le (Arc2 a b c d) 0 j := by
  constructor
  · rintro (h | ⟨h1, h2⟩ | ⟨h1, h2⟩ | ⟨h1, h2, h3⟩ | ⟨h1, h2, h3⟩)
    · exact .le h
    · exact .arc (.le h1) (.inl ⟨rfl, rfl⟩) h2
    · exact .arc (.le h1) (.inr ⟨rfl, rfl⟩) h2
    · exact .arc (.arc (.le h1) (.inl ⟨rfl, rfl⟩) h2) (.inr ⟨rfl, rfl⟩) h3
    · exact .arc (.arc (.le h1) (.inr ⟨rfl, rfl⟩) h2) (.inl ⟨rfl, rfl⟩) h3
  · intro h
    induction h with
    | le h => exact .inl h
    | arc _ x y ih =>
      rcases x with ⟨rfl, rfl⟩ | ⟨rfl, rfl⟩
      · rcases ih with h | ⟨h1, h2⟩ | ⟨h1, h2⟩ | ⟨h1, h2, h3⟩ | ⟨h1, h2, h3⟩
        · exact .inr (.inl ⟨h, y⟩)
        · exact .inr (.inl ⟨h1, y⟩)
        · exact .inr (.inr (.inr (.inr ⟨h1, h2, y⟩)))
        · exact .inr (.inl ⟨h1, y⟩)
        · exact .inr (.inr (.inr (.inr ⟨h1, h2, y⟩)))
      · rcases ih with h | ⟨h1, h2⟩ | ⟨h1, h2⟩ | ⟨h1, h2, h3⟩ | ⟨h1, h2, h3⟩
        · exact .inr (.inr (.inl ⟨h, y⟩))
        · exact .inr (.inr (.inr (.inl ⟨h1, h2, y⟩)))
        · exact .inr (.inr (.inl ⟨h1, y⟩))
        · exact .inr (.inr (.inr (.inl ⟨h1, h2, y⟩)))
        · exact .inr (.inr (.inl ⟨h1, y⟩))
theorem ga_flip (P : Po m le) {i j : Nat} (h : Ga le A i j) : Ga (flip2 le) (flip2 A) j i := by
  induction h with
  | le h => exact .le h
  | arc h x y ih => exact Ga.trans P.flip (.arc (.le y) x (P.flip.rf _ (by
      cases h with
      | le h => exact (P.lt _ _ h).2
      | arc _ _ h => exact (P.lt _ _ h).2))) ih
/-- all are one, told from the first -/
theorem sg_zero (P : Po m le) {a b c d : Nat} : Sg m le (Arc2 a b c d) ↔ 0 < m → (∀ j, j < m → Com le a b c d j) ∧ ∀ j, j < m → Com (flip2 le) b a d c j := by
  have fl : flip2 (Arc2 a b c d) = Arc2 b a d c := by
    funext i j
    unfold flip2 Arc2
    rw [and_comm, and_comm (a := j = c)]
  have fl2 : flip2 (Arc2 b a d c) = Arc2 a b c d := by
    funext i j
    unfold flip2 Arc2
    rw [and_comm, and_comm (a := j = d)]
  constructor
  · intro S h0
    refine ⟨fun j hj => (com_ga P).mpr (S 0 j h0 hj), fun j hj => (com_ga P.flip).mpr ?_⟩
    have := ga_flip P (S j 0 hj h0)
    rw [fl] at this
    exact this
  · intro h i j hi hj
    obtain ⟨h1, h2⟩ := h (by omega)
    have a1 := (com_ga P.flip).mp (h2 i hi)
    have a2 := ga_flip P.flip a1
    rw [fl2] at a2
    exact Ga.trans P a2 ((com_ga P).mp (h1 j hj))
end
end My

/-! windows that join lots -/
namespace My
open PySem PySem.Spec PyProof.Rows L2 Evl
/-- the lots of places, numbered -/
structure Lt (ws : List Str) (m : Nat) (lot : Str → Nat) : Prop where
  lt : ∀ p ∈ plcs ws, lot p < m
  on : ∀ i, i < m → ∃ p ∈ plcs ws, lot p = i
  eq : ∀ p ∈ plcs ws, ∀ q ∈ plcs ws, (lot p = lot q ↔ Rch (nxts ws) p q ∧ Rch (nxts ws) q p)
def lle (ws : List Str) (lot : Str → Nat) (i j : Nat) : Prop := ∃ p q, p ∈ plcs ws ∧ q ∈ plcs ws ∧ lot p = i ∧ lot q = j ∧ Rch (nxts ws) p q
section
variable {ws : List Str} {m : Nat} {lot : Str → Nat}
theorem Lt.le (L : Lt ws m lot) {p q : Str} (hp : p ∈ plcs ws) (hq : q ∈ plcs ws) : lle ws lot (lot p) (lot q) ↔ Rch (nxts ws) p q := by
  constructor
  · rintro ⟨a, b, ha, hb, ea, eb, h⟩
    exact (((L.eq a ha p hp).mp ea).2.trans h).trans ((L.eq b hb q hq).mp eb).1
  · exact fun h => ⟨p, q, hp, hq, rfl, rfl, h⟩
theorem Lt.po (L : Lt ws m lot) : Po m (lle ws lot) := by
  refine ⟨fun i hi => ?_, fun i j k h1 h2 => ?_, fun i j h1 h2 => ?_, fun i j h => ?_⟩
  · obtain ⟨p, hp, rfl⟩ := L.on i hi
    exact (L.le hp hp).mpr .refl
  · obtain ⟨a, b, ha, hb, rfl, rfl, h1⟩ := h1
    obtain ⟨c, d, hc, hd, e1, rfl, h2⟩ := h2
    rw [L.le ha hd]
    exact h1.trans (((L.eq c hc b hb).mp e1).2.trans h2)
  · obtain ⟨a, b, ha, hb, rfl, rfl, h1⟩ := h1
    rw [L.le hb ha] at h2
    exact (L.eq a ha b hb).mpr ⟨h1, h2⟩
  · obtain ⟨a, b, ha, hb, rfl, rfl, _⟩ := h
    exact ⟨L.lt a ha, L.lt b hb⟩
theorem Lt.hang (L : Lt ws m lot) : Hang ws ↔ m ≤ 1 := by
  constructor
  · intro h
    by_cases hm : m ≤ 1
    · exact hm
    · obtain ⟨p, hp, e0⟩ := L.on 0 (by omega)
      obtain ⟨q, hq, e1⟩ := L.on 1 (by omega)
      have := (L.eq p hp q hq).mpr ⟨h p hp q hq, h q hq p hp⟩
      omega
  · intro hm p hp q hq
    have h1 := L.lt p hp
    have h2 := L.lt q hq
    exact ((L.eq p hp q hq).mp (by omega)).1
/-- more windows between the places -/
theorem Lt.join (L : Lt ws m lot) {ys : List Str} (hy : ∀ y ∈ ys, begS y ∈ plcs ws ∧ endS y ∈ plcs ws) : Hang (ws ++ ys) ↔ Sg m (lle ws lot) (fun a b => ∃ y ∈ ys, lot (begS y) = a ∧ lot (endS y) = b) := by
  have pl : ∀ p, p ∈ plcs (ws ++ ys) ↔ p ∈ plcs ws := fun p => by
    rw [plcs_app, List.mem_append]
    refine ⟨fun h => h.elim id fun h => ?_, .inl⟩
    obtain ⟨y, hy1, h | h⟩ := plcs_mem.mp h
    · rw [h]
      exact (hy y hy1).1
    · rw [h]
      exact (hy y hy1).2
  constructor
  · intro h i j hi hj
    obtain ⟨p, hp, rfl⟩ := L.on i hi
    obtain ⟨q, hq, rfl⟩ := L.on j hj
    have r := h p ((pl p).mpr hp) q ((pl q).mpr hq)
    clear hj hq
    induction r with
    | refl => exact .le (L.po.rf _ hi)
    | step h1 h2 ih =>
      obtain ⟨x, hx, hb, he⟩ := nxts_mem.mp h2
      rcases List.mem_append.mp hx with hx | hx
      · have s : Rch (nxts ws) (begS x) (endS x) := Rch.refl.step (nxts_mem.mpr ⟨x, hx, rfl, rfl⟩)
        rw [hb, he] at s
        exact ih.on L.po ((L.le (hb ▸ beg_mem hx) (he ▸ end_mem hx)).mpr s)
      · obtain ⟨b1, b2⟩ := hy x hx
        rw [he] at b2
        exact .arc ih ⟨x, hx, by rw [hb], by rw [he]⟩ (L.po.rf _ (L.lt _ b2))
  · intro S p hp q hq
    have hp := (pl p).mp hp
    have hq := (pl q).mp hq
    have up : ∀ {a b : Str}, Rch (nxts ws) a b → Rch (nxts (ws ++ ys)) a b := fun h => rch_mono (fun x hx => List.mem_append_left _ hx) h
    have g := S (lot p) (lot q) (L.lt p hp) (L.lt q hq)
    have gen : ∀ {j : Nat}, Ga (lle ws lot) (fun a b => ∃ y ∈ ys, lot (begS y) = a ∧ lot (endS y) = b) (lot p) j → ∀ q ∈ plcs ws, lot q = j → Rch (nxts (ws ++ ys)) p q := fun {j} g => by
      induction g with
      | le h =>
        rintro q hq rfl
        exact up ((L.le hp hq).mp h)
      | arc _ x y ih =>
        rintro q hq rfl
        obtain ⟨z, hz, rfl, rfl⟩ := x
        obtain ⟨b1, b2⟩ := hy z hz
        have r1 := ih _ b1 rfl
        have r2 : Rch (nxts (ws ++ ys)) p (endS z) := r1.step (nxts_mem.mpr ⟨z, List.mem_append_right _ hz, rfl, rfl⟩)
        exact r2.trans (up ((L.le b2 hq).mp y))
    exact gen g q hq rfl
end
/-! ### a place and a letter -/
def lstc (q : Str) : Nat := (sg q).getLastD 0
theorem sg_put (p : Str) (c : Nat) : sg (p ++ one1 c) = sg p ++ [c] := sg_app p (one1 c)
theorem beg_put (p : Str) (c : Nat) : begS (p ++ one1 c) = p := sg_inj (by
  show (sg (p ++ one1 c)).dropLast = _
  rw [sg_put, List.dropLast_concat])
theorem end_put {p : Str} (h : 1 ≤ p.length) (c : Nat) : sg (endS (p ++ one1 c)) = (sg p).drop 1 ++ [c] := by
  show (sg (p ++ one1 c)).drop 1 = _
  rw [sg_put, List.drop_append_of_le_length (show 1 ≤ (sg p).length from h)]
theorem len_put (p : Str) (c : Nat) : (p ++ one1 c).length = p.length + 1 := strLen_app p (one1 c)
theorem beg_lst {q : Str} (h : 1 ≤ q.length) : sg q = (sg q).dropLast ++ [lstc q] := by
  have h2 : 1 ≤ (sg q).length := h
  have hn : sg q ≠ [] := fun e => by rw [e] at h2; simp at h2
  rcases List.eq_nil_or_concat (sg q) with e | ⟨l, c, e⟩
  · exact absurd e hn
  · have hl : lstc q = c := by
      unfold lstc
      rw [e]
      simp
    rw [hl, e]
    simp
/-- a window by its ends -/
theorem put_of {x : Str} (h : 2 ≤ x.length) : x = begS x ++ one1 (lstc (endS x)) ∧ endS (begS x) = begS (endS x) := by
  have h2 : 2 ≤ (sg x).length := h
  have hx := beg_lst (q := x) (by omega)
  have hl : lstc (endS x) = lstc x := by
    unfold lstc
    show ((sg x).drop 1).getLastD 0 = _
    rw [List.getLastD_eq_getLast?, List.getLastD_eq_getLast?, List.getLast?_drop, if_neg (by omega)]
  refine ⟨sg_inj ?_, sg_inj ?_⟩
  · rw [sg_put, hl]
    exact hx
  · show ((sg x).dropLast).drop 1 = ((sg x).drop 1).dropLast
    rcases List.eq_nil_or_concat (sg x) with e | ⟨l, c, e⟩
    · rw [e]
      rfl
    · rw [e]
      cases l with
      | nil => rw [e] at h2; simp at h2
      | cons a l =>
        simp
        rw [show a :: (l ++ [c]) = (a :: l) ++ [c] from rfl, List.dropLast_concat]
        rfl
theorem end_is {p q : Str} (hp : 1 ≤ p.length) (hq : 1 ≤ q.length) (h : endS p = begS q) : endS (p ++ one1 (lstc q)) = q := sg_inj (by
  rw [end_put hp]
  have : (sg p).drop 1 = (sg q).dropLast := congrArg sg h
  rw [this, ← beg_lst hq])
/-! ### one window more, two windows more -/
/-- what may be put to the windows V: a place of S and a letter -/
def Fur (V S : List Str) (ls : List Nat) (x : Str) : Prop := ∃ p ∈ S, ∃ c ∈ ls, x = p ++ one1 c ∧ x ∉ V
/-- an arc between two lots, by a window that is not there -/
def ArcP (ws : List Str) (lot : Str → Nat) (i j : Nat) : Prop := i ≠ j ∧ ∃ p q, p ∈ plcs ws ∧ q ∈ plcs ws ∧ lot p = i ∧ lot q = j ∧ endS p = begS q ∧ (p ++ one1 (lstc q)) ∉ ws
/-- an arc by a new place -/
def LongP (ws : List Str) (lot : Str → Nat) (i j : Nat) : Prop := i ≠ j ∧ ∃ p q, p ∈ plcs ws ∧ q ∈ plcs ws ∧ lot p = i ∧ lot q = j ∧ endS (endS p) = begS (begS q) ∧ (endS p ++ one1 (lstc (begS q))) ∉ plcs ws
section
variable {ws : List Str} {m n : Nat} {lot : Str → Nat} {ls : List Nat}
/-- all have one length -/
structure Wl (ws : List Str) (n : Nat) (ls : List Nat) : Prop where
  n2 : 2 ≤ n
  len : ∀ x ∈ ws, x.length = n
  ne : ws ≠ []
  let_ : ∀ c, c ∈ ls ↔ ∃ x ∈ ws, c ∈ sg x
theorem Wl.plc (W : Wl ws n ls) {p : Str} (hp : p ∈ plcs ws) : p.length = n - 1 ∧ 1 ≤ p.length := by
  obtain ⟨x, hx, h | h⟩ := plcs_mem.mp hp
  · rw [h, len_beg, W.len x hx]
    have := W.n2
    omega
  · rw [h, len_end, W.len x hx]
    have := W.n2
    omega
theorem Wl.sgn (W : Wl ws n ls) {p : Str} (hp : p ∈ plcs ws) {c : Nat} (hc : c ∈ sg p) : c ∈ ls := by
  obtain ⟨x, hx, h | h⟩ := plcs_mem.mp hp
  · rw [h] at hc
    exact (W.let_ c).mpr ⟨x, hx, List.dropLast_subset _ hc⟩
  · rw [h] at hc
    exact (W.let_ c).mpr ⟨x, hx, List.drop_subset _ _ hc⟩
theorem lst_mem {q : Str} (h : 1 ≤ q.length) : lstc q ∈ sg q := by
  rw [beg_lst h]
  exact List.mem_append_right _ (List.mem_singleton.mpr rfl)
theorem sg_many {le A B : Nat → Nat → Prop} (h : ∀ a b, A a b ↔ B a b) : Sg m le A ↔ Sg m le B :=
  ⟨fun S i j hi hj => (S i j hi hj).mono fun a b => (h a b).mp, fun S i j hi hj => (S i j hi hj).mono fun a b => (h a b).mpr⟩
/-- a new place that is not left again -/
theorem dead {V : List Str} {x : Str} (hx : x ∈ V) (h : Hang V) {p : Str} (hp : p ∈ plcs V) (hne : p ≠ endS x) : ∃ y ∈ V, begS y = endS x ∧ endS y ≠ endS x := rch_out (h _ (end_mem hx) _ hp) hne
theorem join1 (L : Lt ws m lot) {x : Str} (hb : begS x ∈ plcs ws) (he : endS x ∈ plcs ws) : Hang (ws ++ [x]) ↔ Sg m (lle ws lot) (Arc1 (lot (begS x)) (lot (endS x))) := by
  rw [L.join fun y hy => by rw [List.mem_singleton.mp hy]; exact ⟨hb, he⟩]
  refine sg_many fun a b => ⟨fun ⟨y, hy, h1, h2⟩ => ?_, fun ⟨h1, h2⟩ => ⟨x, List.mem_singleton.mpr rfl, h1.symm, h2.symm⟩⟩
  rw [List.mem_singleton.mp hy] at h1 h2
  exact ⟨h1.symm, h2.symm⟩
theorem join2 (L : Lt ws m lot) {x y : Str} (hb : begS x ∈ plcs ws) (he : endS x ∈ plcs ws) (hb2 : begS y ∈ plcs ws) (he2 : endS y ∈ plcs ws) : Hang (ws ++ [x, y]) ↔ Sg m (lle ws lot) (Arc2 (lot (begS x)) (lot (endS x)) (lot (begS y)) (lot (endS y))) := by
  rw [L.join fun z hz => by
    rcases List.mem_cons.mp hz with rfl | hz
    · exact ⟨hb, he⟩
    · rw [List.mem_singleton.mp hz]
      exact ⟨hb2, he2⟩]
  refine sg_many fun a b => ⟨fun ⟨z, hz, h1, h2⟩ => ?_, fun h => ?_⟩
  · rcases List.mem_cons.mp hz with rfl | hz
    · exact .inl ⟨h1.symm, h2.symm⟩
    · rw [List.mem_singleton.mp hz] at h1 h2
      exact .inr ⟨h1.symm, h2.symm⟩
  · rcases h with ⟨h1, h2⟩ | ⟨h1, h2⟩
    · exact ⟨x, List.mem_cons_self .., h1.symm, h2.symm⟩
    · exact ⟨y, List.mem_cons_of_mem _ (List.mem_cons_self ..), h1.symm, h2.symm⟩
/-- an arc's window -/
theorem arc_win (W : Wl ws n ls) {i j : Nat} (h : ArcP ws lot i j) : ∃ x, Fur ws (plcs ws) ls x ∧ begS x ∈ plcs ws ∧ endS x ∈ plcs ws ∧ lot (begS x) = i ∧ lot (endS x) = j := by
  obtain ⟨_, p, q, hp, hq, h1, h2, h3, h4⟩ := h
  have lp := (W.plc hp).2
  have lq := (W.plc hq).2
  have e := end_is lp lq h3
  exact ⟨p ++ one1 (lstc q), ⟨p, hp, lstc q, W.sgn hq (lst_mem lq), rfl, h4⟩, by rw [beg_put]; exact hp, by rw [e]; exact hq, by rw [beg_put]; exact h1, by rw [e]; exact h2⟩
theorem win_arc (W : Wl ws n ls) {x : Str} (hx : x ∉ ws) (hb : begS x ∈ plcs ws) (he : endS x ∈ plcs ws) (l : 2 ≤ x.length) (hne : lot (begS x) ≠ lot (endS x)) : ArcP ws lot (lot (begS x)) (lot (endS x)) := by
  obtain ⟨h1, h2⟩ := put_of l
  exact ⟨hne, begS x, endS x, hb, he, rfl, rfl, h2, by rw [← h1]; exact hx⟩
theorem Fur.len (W : Wl ws n ls) {V : List Str} {x : Str} (h : Fur V (plcs ws) ls x) : x.length = n ∧ begS x ∈ plcs ws := by
  obtain ⟨p, hp, c, _, rfl, _⟩ := h
  rw [len_put, beg_put]
  have := W.plc hp
  exact ⟨by omega, hp⟩
/-- which window alone makes it hang together -/
theorem single (W : Wl ws n ls) (L : Lt ws m lot) (h2 : 2 ≤ m) : (∃ x, Fur ws (plcs ws) ls x ∧ Hang (ws ++ [x])) ↔ ∃ e s, (∀ i, Mx m (lle ws lot) i → i = e) ∧ (∀ i, Mx m (flip2 (lle ws lot)) i → i = s) ∧ ArcP ws lot e s := by
  constructor
  · rintro ⟨x, hx, hh⟩
    obtain ⟨xl, hb⟩ := hx.len W
    have xn : x ∉ ws := by
      obtain ⟨_, _, _, _, _, h⟩ := hx
      exact h
    by_cases he : endS x ∈ plcs ws
    · have S := (join1 L hb he).mp hh
      obtain ⟨hm, hn⟩ := one_sg h2 S
      refine ⟨_, _, hm, hn, win_arc W xn hb he (by have := W.n2; omega) fun e => ?_⟩
      have all : ∀ i, i < m → i = lot (begS x) := fun i hi => by
        obtain ⟨t, ht, hit⟩ := L.po.top hi
        obtain ⟨b, hb2, hbi⟩ := L.po.bot hi
        have e1 := hm t ht
        have e2 := hn b hb2
        rw [e1] at hit
        rw [e2, ← e] at hbi
        exact L.po.an _ _ hit hbi
      have a0 := all 0 (by omega)
      have a1 := all 1 (by omega)
      omega
    · obtain ⟨y, hy, y1, y2⟩ := dead (List.mem_append_right _ (List.mem_singleton.mpr rfl)) hh (p := begS x) (by rw [plcs_app]; exact List.mem_append_left _ hb) (fun e => he (e ▸ hb))
      rcases List.mem_append.mp hy with hy | hy
      · exact absurd (y1 ▸ beg_mem hy) he
      · rw [List.mem_singleton.mp hy] at y1
        exact absurd (y1 ▸ hb) he
  · rintro ⟨e, s, hm, hn, ha⟩
    obtain ⟨x, hx, hb, he, h1, h3⟩ := arc_win W ha
    refine ⟨x, hx, (join1 L hb he).mpr ?_⟩
    rw [h1, h3]
    exact sg_one L.po hm hn
end
end My

/-! two windows that join -/
namespace My
open PySem PySem.Spec PyProof.Rows L2 Evl
section
variable {ws : List Str} {m n : Nat} {lot : Str → Nat} {ls : List Nat}
theorem Fur.as {V S S' : List Str} {x : Str} (h : Fur V S ls x) (hs : ∀ p ∈ S, p ∈ S') : Fur V S' ls x := by
  obtain ⟨p, hp, c, hc, e, hn⟩ := h
  exact ⟨p, hs p hp, c, hc, e, hn⟩
theorem all_one {le : Nat → Nat → Prop} (P : Po m le) (h2 : 2 ≤ m) {e s : Nat} (hm : ∀ i, Mx m le i → i = e) (hn : ∀ i, Mx m (flip2 le) i → i = s) : e ≠ s := fun h => by
  have all : ∀ i, i < m → i = e := fun i hi => by
    obtain ⟨t, ht, hit⟩ := P.top hi
    obtain ⟨b, hb2, hbi⟩ := P.bot hi
    have e1 := hm t ht
    have e2 := hn b hb2
    rw [e1] at hit
    rw [e2, ← h] at hbi
    exact P.an _ _ hit hbi
  have a0 := all 0 (by omega)
  have a1 := all 1 (by omega)
  omega
/-- a way by a new place -/
theorem join_long (L : Lt ws m lot) {x y : Str} (hb : begS x ∈ plcs ws) (hr : endS x ∉ plcs ws) (hxy : begS y = endS x) (he : endS y ∈ plcs ws) : Hang (ws ++ [x, y]) ↔ Sg m (lle ws lot) (Arc1 (lot (begS x)) (lot (endS y))) := by
  have pl : ∀ p, p ∈ plcs (ws ++ [x, y]) ↔ p ∈ plcs ws ∨ p = endS x := fun p => by
    rw [plcs_app, List.mem_append]
    constructor
    · rintro (h | h)
      · exact .inl h
      · obtain ⟨z, hz, hpz⟩ := plcs_mem.mp h
        rcases List.mem_cons.mp hz with hzx | hz
        · rw [hzx] at hpz
          exact hpz.elim (fun h => .inl (h ▸ hb)) .inr
        · rw [List.mem_singleton.mp hz] at hpz
          exact hpz.elim (fun h => .inr (h.trans hxy)) fun h => .inl (h ▸ he)
    · rintro (h | h)
      · exact .inl h
      · exact .inr (h ▸ end_mem (List.mem_cons_self ..))
  constructor
  · intro hh i j hi hj
    obtain ⟨p, hp, rfl⟩ := L.on i hi
    obtain ⟨q, hq, rfl⟩ := L.on j hj
    have gen : ∀ {c : Str}, Rch (nxts (ws ++ [x, y])) p c → (c ∈ plcs ws → Ga (lle ws lot) (Arc1 (lot (begS x)) (lot (endS y))) (lot p) (lot c)) ∧ (c = endS x → Ga (lle ws lot) (Arc1 (lot (begS x)) (lot (endS y))) (lot p) (lot (begS x))) := fun {c} r => by
      induction r with
      | refl => exact ⟨fun _ => .le (L.po.rf _ hi), fun h => absurd (h ▸ hp) hr⟩
      | step _ h2 ih =>
        obtain ⟨z, hz, rfl, rfl⟩ := nxts_mem.mp h2
        rcases List.mem_append.mp hz with hz | hz
        · have s : Rch (nxts ws) (begS z) (endS z) := Rch.refl.step (nxts_mem.mpr ⟨z, hz, rfl, rfl⟩)
          exact ⟨fun _ => (ih.1 (beg_mem hz)).on L.po ((L.le (beg_mem hz) (end_mem hz)).mpr s), fun h => absurd (h ▸ end_mem hz) hr⟩
        · rcases List.mem_cons.mp hz with rfl | hz
          · exact ⟨fun h => absurd h hr, fun _ => ih.1 hb⟩
          · rw [List.mem_singleton.mp hz] at ih ⊢
            exact ⟨fun _ => .arc (ih.2 hxy) ⟨rfl, rfl⟩ (L.po.rf _ (L.lt _ he)), fun h => absurd (h ▸ he) hr⟩
    exact (gen (hh p ((pl p).mpr (.inl hp)) q ((pl q).mpr (.inl hq)))).1 hq
  · intro S
    have up : ∀ {a b : Str}, Rch (nxts ws) a b → Rch (nxts (ws ++ [x, y])) a b := fun h => rch_mono (fun x hx => List.mem_append_left _ hx) h
    have sx : endS x ∈ nxts (ws ++ [x, y]) (begS x) := nxts_mem.mpr ⟨x, by simp, rfl, rfl⟩
    have sy : endS y ∈ nxts (ws ++ [x, y]) (endS x) := nxts_mem.mpr ⟨y, by simp, hxy, rfl⟩
    have gen : ∀ {p : Str}, p ∈ plcs ws → ∀ {j : Nat}, Ga (lle ws lot) (Arc1 (lot (begS x)) (lot (endS y))) (lot p) j → ∀ q ∈ plcs ws, lot q = j → Rch (nxts (ws ++ [x, y])) p q := fun {p} hp {j} g => by
      induction g with
      | le h =>
        rintro q hq rfl
        exact up ((L.le hp hq).mp h)
      | arc _ a b ih =>
        rintro q hq rfl
        obtain ⟨rfl, rfl⟩ := a
        exact (((ih _ hb rfl).step sx).step sy).trans (up ((L.le he hq).mp b))
    have main : ∀ p ∈ plcs ws, ∀ q ∈ plcs ws, Rch (nxts (ws ++ [x, y])) p q := fun p hp q hq => gen hp (S _ _ (L.lt p hp) (L.lt q hq)) q hq rfl
    have fromR : ∀ q ∈ plcs ws, Rch (nxts (ws ++ [x, y])) (endS x) q := fun q hq => (Rch.refl.step sy).trans (main _ he q hq)
    have toR : ∀ p ∈ plcs ws, Rch (nxts (ws ++ [x, y])) p (endS x) := fun p hp => (main p hp _ hb).step sx
    intro p hp q hq
    rcases (pl p).mp hp with hp | rfl
    · rcases (pl q).mp hq with hq | rfl
      · exact main p hp q hq
      · exact toR p hp
    · rcases (pl q).mp hq with hq | rfl
      · exact fromR q hq
      · exact .refl
theorem double (W : Wl ws n ls) (L : Lt ws m lot) (h2 : 2 ≤ m) (no1 : ¬ ∃ x, Fur ws (plcs ws) ls x ∧ Hang (ws ++ [x])) :
    (∃ x y, Fur ws (plcs ws) ls x ∧ Fur (ws ++ [x]) (plcs ws ++ [endS x]) ls y ∧ Hang (ws ++ [x, y])) ↔
      (3 ≤ n ∧ ∃ e s, (∀ i, Mx m (lle ws lot) i → i = e) ∧ (∀ i, Mx m (flip2 (lle ws lot)) i → i = s) ∧ LongP ws lot e s) ∨ ∃ i j k l, ArcP ws lot i j ∧ ArcP ws lot k l ∧ Sg m (lle ws lot) (Arc2 i j k l) := by
  have n2 := W.n2
  constructor
  · rintro ⟨x, y, hx, hy, hh⟩
    obtain ⟨xl, hb⟩ := hx.len W
    have xn : x ∉ ws := by
      obtain ⟨_, _, _, _, _, h⟩ := hx
      exact h
    obtain ⟨py, hpy, c2, hc2, ey, yn⟩ := hy
    have yw : y ∉ ws := fun h => yn (List.mem_append_left _ h)
    have by_ : begS y = py := by rw [ey, beg_put]
    have xV : x ∈ ws ++ [x, y] := by simp
    have yV : y ∈ ws ++ [x, y] := by simp
    have upP : ∀ p ∈ plcs ws, p ∈ plcs (ws ++ [x, y]) := fun p hp => by
      rw [plcs_app]
      exact List.mem_append_left _ hp
    have mem3 : ∀ z ∈ ws ++ [x, y], z ∈ ws ∨ z = x ∨ z = y := fun z hz => by
      rcases List.mem_append.mp hz with h | h
      · exact .inl h
      · rcases List.mem_cons.mp h with h | h
        · exact .inr (.inl h)
        · exact .inr (.inr (List.mem_singleton.mp h))
    by_cases he : endS x ∈ plcs ws
    · have hpyP : py ∈ plcs ws := (List.mem_append.mp hpy).elim id fun h => by rw [List.mem_singleton.mp h]; exact he
      have hyF : Fur ws (plcs ws) ls y := ⟨py, hpyP, c2, hc2, ey, yw⟩
      obtain ⟨yl, hb2⟩ := hyF.len W
      by_cases he2 : endS y ∈ plcs ws
      · have S := (join2 L hb he hb2 he2).mp hh
        refine .inr ⟨_, _, _, _, win_arc W xn hb he (by omega) fun e => ?_, win_arc W yw hb2 he2 (by omega) fun e => ?_, S⟩
        · refine no1 ⟨y, hyF, (join1 L hb2 he2).mpr (two_idle L.po ?_ S)⟩
          rw [e]
          exact L.po.rf _ (L.lt _ he)
        · refine no1 ⟨x, hx, (join1 L hb he).mpr (two_idle L.po ?_ (two_swap S))⟩
          rw [e]
          exact L.po.rf _ (L.lt _ he2)
      · obtain ⟨z, hz, z1, z2⟩ := dead yV hh (upP _ hb) fun e => he2 (e ▸ hb)
        rcases mem3 z hz with h | h | h
        · exact absurd (z1 ▸ beg_mem h) he2
        · rw [h] at z1
          exact absurd (z1 ▸ hb) he2
        · rw [h] at z1
          exact absurd (z1 ▸ hb2) he2
    · obtain ⟨z, hz, z1, z2⟩ := dead xV hh (upP _ hb) fun e => he (e ▸ hb)
      have zy : z = y := by
        rcases mem3 z hz with h | h | h
        · exact absurd (z1 ▸ beg_mem h) he
        · rw [h] at z1
          exact absurd (z1 ▸ hb) he
        · exact h
      rw [zy] at z1 z2
      have he2 : endS y ∈ plcs ws := by
        by_cases he2 : endS y ∈ plcs ws
        · exact he2
        · obtain ⟨u, hu, u1, u2⟩ := dead yV hh (upP _ hb) fun e => he2 (e ▸ hb)
          rcases mem3 u hu with h | h | h
          · exact absurd (u1 ▸ beg_mem h) he2
          · rw [h] at u1
            exact absurd (u1 ▸ hb) he2
          · rw [h] at u1
            exact absurd (u1.symm.trans z1) z2
      have S := (join_long L hb he z1 he2).mp hh
      obtain ⟨hm, hn⟩ := one_sg h2 S
      obtain ⟨p, hp, c1, hc1, ex, _⟩ := hx
      have bx : begS x = p := by rw [ex, beg_put]
      obtain ⟨pl, pl1⟩ := W.plc hp
      have ex2 : sg (endS x) = (sg p).drop 1 ++ [c1] := by rw [ex, end_put pl1]
      have n3 : 3 ≤ n := by
        by_cases h3 : 3 ≤ n
        · exact h3
        · exfalso
          have l1 : (sg p).length = 1 := by
            have : (sg p).length = n - 1 := pl
            omega
          have d1 : (sg p).drop 1 = [] := List.drop_eq_nil_iff.mpr (by omega)
          rw [d1, List.nil_append] at ex2
          obtain ⟨w, hw, hcw⟩ := (W.let_ c1).mp hc1
          have wl : (sg w).length = 2 := by
            have : (sg w).length = n := W.len w hw
            omega
          match hsw : sg w with
          | [] => rw [hsw] at wl; simp at wl
          | [_] => rw [hsw] at wl; simp at wl
          | [a, b] =>
            rw [hsw] at hcw
            rcases List.mem_cons.mp hcw with h | h
            · refine he ?_
              have : endS x = begS w := sg_inj (by
                rw [ex2]
                show _ = (sg w).dropLast
                rw [hsw, h]
                rfl)
              rw [this]
              exact beg_mem hw
            · refine he ?_
              have : endS x = endS w := sg_inj (by
                rw [ex2]
                show _ = (sg w).drop 1
                rw [hsw, List.mem_singleton.mp h]
                rfl)
              rw [this]
              exact end_mem hw
          | _ :: _ :: _ :: _ => rw [hsw] at wl; simp at wl
      refine .inl ⟨n3, _, _, hm, hn, all_one L.po h2 hm hn, begS x, endS y, hb, he2, rfl, rfl, ?_⟩
      have rl : 1 ≤ (endS x).length := by
        rw [len_end, xl]
        omega
      have epy : py = endS x := by rw [← by_, z1]
      have ey2 : sg (endS y) = (sg (endS x)).drop 1 ++ [c2] := by
        rw [ey, epy, end_put rl]
      have sp : 2 ≤ (sg p).length := by
        have : (sg p).length = n - 1 := pl
        omega
      have d2 : (sg (endS x)).drop 1 = (sg p).drop 2 ++ [c1] := by
        rw [ex2, List.drop_append_of_le_length (by rw [List.length_drop]; omega), List.drop_drop]
      have bq : sg (begS (endS y)) = (sg p).drop 2 ++ [c1] := by
        show (sg (endS y)).dropLast = _
        rw [ey2, List.dropLast_concat, d2]
      have lq : lstc (begS (endS y)) = c1 := by
        unfold lstc
        rw [bq]
        simp
      rw [bx]
      refine ⟨sg_inj ?_, ?_⟩
      · show (((sg p).drop 1).drop 1) = (sg (begS (endS y))).dropLast
        rw [bq, List.dropLast_concat, List.drop_drop]
      · rw [lq]
        have : endS p ++ one1 c1 = endS x := sg_inj (by
          rw [sg_put, ex2]
          rfl)
        rw [this]
        exact he
  · rintro (⟨n3, e, s, hm, hn, _, p, q, hp, hq, h1, h3, h4, h5⟩ | ⟨i, j, k, l, ha, hb, S⟩)
    · have lp := W.plc hp
      have lq := W.plc hq
      have epl : 1 ≤ (endS p).length := by
        rw [len_end]
        omega
      have bql : 1 ≤ (begS q).length := by
        rw [len_beg]
        omega
      have ex : endS (p ++ one1 (lstc (begS q))) = endS p ++ one1 (lstc (begS q)) := sg_inj (by rw [end_put lp.2, sg_put]; rfl)
      have rl : 1 ≤ (endS p ++ one1 (lstc (begS q))).length := by
        rw [len_put]
        omega
      have er : endS (endS p ++ one1 (lstc (begS q))) = begS q := end_is epl bql h4
      have ey : endS ((endS p ++ one1 (lstc (begS q))) ++ one1 (lstc q)) = q := end_is rl lq.2 er
      have c1 : lstc (begS q) ∈ ls := W.sgn hq (List.dropLast_subset _ (lst_mem bql))
      have c2 : lstc q ∈ ls := W.sgn hq (lst_mem lq.2)
      have bx := beg_put p (lstc (begS q))
      have by_ := beg_put (endS p ++ one1 (lstc (begS q))) (lstc q)
      refine ⟨p ++ one1 (lstc (begS q)), (endS p ++ one1 (lstc (begS q))) ++ one1 (lstc q), ⟨p, hp, _, c1, rfl, fun h => h5 (by rw [← ex]; exact end_mem h)⟩, ⟨endS p ++ one1 (lstc (begS q)), List.mem_append_right _ (by rw [ex]; exact List.mem_singleton.mpr rfl), _, c2, rfl, fun h => ?_⟩, ?_⟩
      · rcases List.mem_append.mp h with h | h
        · exact h5 (by rw [← by_]; exact beg_mem h)
        · have := congrArg begS (List.mem_singleton.mp h)
          rw [by_, bx] at this
          exact h5 (by rw [this]; exact hp)
      · refine (join_long L (by rw [bx]; exact hp) (by rw [ex]; exact h5) (by rw [by_, ex]) (by rw [ey]; exact hq)).mpr ?_
        rw [bx, ey, h1, h3]
        exact sg_one L.po hm hn
    · obtain ⟨x, hx, xb, xe, x1, x2⟩ := arc_win W ha
      obtain ⟨y, hy, yb, ye, y1, y2⟩ := arc_win W hb
      refine ⟨x, y, hx, ?_, (join2 L xb xe yb ye).mpr (by rw [x1, x2, y1, y2]; exact S)⟩
      obtain ⟨p, hp, c, hc, rfl, hn⟩ := hy
      refine ⟨p, List.mem_append_left _ hp, c, hc, rfl, fun h => ?_⟩
      rcases List.mem_append.mp h with h | h
      · exact hn h
      · have h := List.mem_singleton.mp h
        rw [h] at y1 y2
        refine no1 ⟨x, hx, (join1 L xb xe).mpr ?_⟩
        rw [← x1, ← x2, ← y1, ← y2, x1, x2] at S
        rw [x1, x2]
        exact two_same S
end
end My

/-! the fewest windows that join -/
namespace My
open PySem PySem.Spec PyProof.Rows L2 Evl
def letsOf (ws : List Str) : List Nat := ws.flatMap sg
theorem letsOf_mem {ws : List Str} {c : Nat} : c ∈ letsOf ws ↔ ∃ x ∈ ws, c ∈ sg x := List.mem_flatMap
def One (ws : List Str) : Prop := ∃ x, Fur ws (plcs ws) (letsOf ws) x ∧ Hang (ws ++ [x])
def Two2 (ws : List Str) : Prop := ∃ x y, Fur ws (plcs ws) (letsOf ws) x ∧ Fur (ws ++ [x]) (plcs ws ++ [endS x]) (letsOf ws) y ∧ Hang (ws ++ [x, y])
open Classical in
noncomputable def fewN (ws : List Str) : Option Nat := if Hang ws then some 0 else if One ws then some 1 else if Two2 ws then some 2 else none
/-- the tops, in their order -/
noncomputable def tops (m : Nat) (le : Nat → Nat → Prop) : List Nat := (List.range m).filter fun i => @decide (Mx m le i) (Classical.propDecidable _)
theorem tops_mem {m : Nat} {le : Nat → Nat → Prop} {i : Nat} : i ∈ tops m le ↔ Mx m le i := by
  unfold tops
  rw [List.mem_filter, List.mem_range, @decide_eq_true_iff _ (Classical.propDecidable _)]
  exact ⟨fun h => h.2, fun h => ⟨h.1, h⟩⟩
theorem tops_nd (m : Nat) (le : Nat → Nat → Prop) : (tops m le).Nodup := List.nodup_range.filter _
theorem tops_pos {m : Nat} {le : Nat → Nat → Prop} (P : Po m le) (h : 0 < m) : 0 < (tops m le).length := by
  obtain ⟨e, he, _⟩ := P.top h
  exact List.length_pos_of_mem (tops_mem.mpr he)
theorem tops_le2 {m : Nat} {le : Nat → Nat → Prop} {a b : Nat} (h : ∀ i, Mx m le i → i = a ∨ i = b) : (tops m le).length ≤ 2 :=
  nodup_len (l := [a, b]) (tops_nd m le) fun i hi => by
    rcases h i (tops_mem.mp hi) with rfl | rfl <;> simp
theorem tops_le1 {m : Nat} {le : Nat → Nat → Prop} {a : Nat} (h : ∀ i, Mx m le i → i = a) : (tops m le).length ≤ 1 :=
  nodup_len (l := [a]) (tops_nd m le) fun i hi => by rw [h i (tops_mem.mp hi)]; simp
theorem one_of {l : List Nat} (h : l.length = 1) : ∃ a, l = [a] := by
  match l, h with
  | [a], _ => exact ⟨a, rfl⟩
theorem two_of {l : List Nat} (h : l.length = 2) : ∃ a b, l = [a, b] := by
  match l, h with
  | [a, b], _ => exact ⟨a, b, rfl⟩
/-- what the search looks at: the arcs for the first place and for the second one -/
def Sel1 (E S : List Nat) (a : Nat × Nat) : Prop := if E.length = 2 then a.1 = E.getD 0 0 else if S.length = 2 then a.2 = S.getD 0 0 else a.1 = E.getD 0 0
def Sel2 (E S : List Nat) (a : Nat × Nat) : Prop := if E.length = 2 then a.1 = E.getD 1 0 else if S.length = 2 then a.2 = S.getD 1 0 else a.2 = S.getD 0 0
section
variable {ws : List Str} {m n : Nat} {lot : Str → Nat}
theorem Wl.own {n : Nat} (h2 : 2 ≤ n) (h : ∀ x ∈ ws, x.length = n) (ne : ws ≠ []) : Wl ws n (letsOf ws) := ⟨h2, h, ne, fun c => letsOf_mem⟩
theorem sel_pair {le : Nat → Nat → Prop} (h2 : 2 ≤ m) {i j k l : Nat} (S : Sg m le (Arc2 i j k l)) (no : ¬ ((tops m le).length = 1 ∧ (tops m (flip2 le)).length = 1 ∧ ((i = (tops m le).getD 0 0 ∧ j = (tops m (flip2 le)).getD 0 0) ∨ (k = (tops m le).getD 0 0 ∧ l = (tops m (flip2 le)).getD 0 0))))
    (P : Po m le) : (Sel1 (tops m le) (tops m (flip2 le)) (i, j) ∧ Sel2 (tops m le) (tops m (flip2 le)) (k, l)) ∨ (Sel1 (tops m le) (tops m (flip2 le)) (k, l) ∧ Sel2 (tops m le) (tops m (flip2 le)) (i, j)) := by
  obtain ⟨hm, hn⟩ := two_sg h2 S
  have e1 := tops_le2 hm
  have e2 := tops_le2 hn
  have p1 := tops_pos P (show 0 < m by omega)
  have p2 := tops_pos P.flip (show 0 < m by omega)
  have hE : ∀ a ∈ tops m le, a = i ∨ a = k := fun a ha => hm a (tops_mem.mp ha)
  have hS : ∀ a ∈ tops m (flip2 le), a = j ∨ a = l := fun a ha => hn a (tops_mem.mp ha)
  have nd1 := tops_nd m le
  have nd2 := tops_nd m (flip2 le)
  generalize tops m le = E at *
  generalize tops m (flip2 le) = T at *
  unfold Sel1 Sel2
  by_cases hE2 : E.length = 2
  · rw [if_pos hE2, if_pos hE2, if_pos hE2, if_pos hE2]
    obtain ⟨a, b, rfl⟩ := two_of hE2
    have hab : a ≠ b := fun e => (List.nodup_cons.mp nd1).1 (by rw [e]; simp)
    have ha := hE a (by simp)
    have hb := hE b (by simp)
    show (i = a ∧ k = b) ∨ (k = a ∧ i = b)
    rcases ha with rfl | rfl
    · rcases hb with h | rfl
      · exact absurd h.symm hab
      · exact .inl ⟨rfl, rfl⟩
    · rcases hb with rfl | h
      · exact .inr ⟨rfl, rfl⟩
      · exact absurd h.symm hab
  · rw [if_neg hE2, if_neg hE2, if_neg hE2, if_neg hE2]
    by_cases hT2 : T.length = 2
    · rw [if_pos hT2, if_pos hT2, if_pos hT2, if_pos hT2]
      obtain ⟨a, b, rfl⟩ := two_of hT2
      have hab : a ≠ b := fun e => (List.nodup_cons.mp nd2).1 (by rw [e]; simp)
      have ha := hS a (by simp)
      have hb := hS b (by simp)
      show (j = a ∧ l = b) ∨ (l = a ∧ j = b)
      rcases ha with rfl | rfl
      · rcases hb with h | rfl
        · exact absurd h.symm hab
        · exact .inl ⟨rfl, rfl⟩
      · rcases hb with rfl | h
        · exact .inr ⟨rfl, rfl⟩
        · exact absurd h.symm hab
    · rw [if_neg hT2, if_neg hT2, if_neg hT2, if_neg hT2]
      obtain ⟨a, rfl⟩ := one_of (show E.length = 1 by omega)
      obtain ⟨b, rfl⟩ := one_of (show T.length = 1 by omega)
      have ha := hE a (by simp)
      have hb := hS b (by simp)
      show (i = a ∧ l = b) ∨ (k = a ∧ j = b)
      have no : ¬ ((i = a ∧ j = b) ∨ (k = a ∧ l = b)) := fun h => no ⟨rfl, rfl, h⟩
      rcases ha with rfl | rfl
      · rcases hb with rfl | rfl
        · exact absurd (.inl ⟨rfl, rfl⟩) no
        · exact .inl ⟨rfl, rfl⟩
      · rcases hb with rfl | rfl
        · exact .inr ⟨rfl, rfl⟩
        · exact absurd (.inr ⟨rfl, rfl⟩) no
/-- what the program tells -/
structure Told (ws : List Str) (m n : Nat) (lot : Str → Nat) (r : Option Nat) : Prop where
  many : 2 < (tops m (lle ws lot)).length ∨ 2 < (tops m (flip2 (lle ws lot))).length → r = none
  one : (tops m (lle ws lot)).length = 1 → (tops m (flip2 (lle ws lot))).length = 1 → ArcP ws lot ((tops m (lle ws lot)).getD 0 0) ((tops m (flip2 (lle ws lot))).getD 0 0) → r = some 1
  rest : ¬ (2 < (tops m (lle ws lot)).length ∨ 2 < (tops m (flip2 (lle ws lot))).length) → ¬ ((tops m (lle ws lot)).length = 1 ∧ (tops m (flip2 (lle ws lot))).length = 1 ∧ ArcP ws lot ((tops m (lle ws lot)).getD 0 0) ((tops m (flip2 (lle ws lot))).getD 0 0)) →
    (r = some 2 ∧ ((3 ≤ n ∧ (tops m (lle ws lot)).length = 1 ∧ (tops m (flip2 (lle ws lot))).length = 1 ∧ LongP ws lot ((tops m (lle ws lot)).getD 0 0) ((tops m (flip2 (lle ws lot))).getD 0 0)) ∨ ∃ a b : Nat × Nat, ArcP ws lot a.1 a.2 ∧ ArcP ws lot b.1 b.2 ∧ Sg m (lle ws lot) (Arc2 a.1 a.2 b.1 b.2))) ∨
    (r = none ∧ ¬ (3 ≤ n ∧ (tops m (lle ws lot)).length = 1 ∧ (tops m (flip2 (lle ws lot))).length = 1 ∧ LongP ws lot ((tops m (lle ws lot)).getD 0 0) ((tops m (flip2 (lle ws lot))).getD 0 0)) ∧ ∀ a b : Nat × Nat, ArcP ws lot a.1 a.2 → ArcP ws lot b.1 b.2 → Sel1 (tops m (lle ws lot)) (tops m (flip2 (lle ws lot))) a → Sel2 (tops m (lle ws lot)) (tops m (flip2 (lle ws lot))) b → ¬ Sg m (lle ws lot) (Arc2 a.1 a.2 b.1 b.2))
theorem uniq_iff {le : Nat → Nat → Prop} (P : Po m le) (h0 : 0 < m) {e : Nat} : (∀ i, Mx m le i → i = e) ↔ tops m le = [e] := by
  constructor
  · intro h
    obtain ⟨a, ha⟩ := one_of (show (tops m le).length = 1 by
      have := tops_le1 h
      have := tops_pos P h0
      omega)
    have := h a (tops_mem.mp (by rw [ha]; simp))
    rw [ha, this]
  · intro h i hi
    have := tops_mem.mpr hi
    rw [h] at this
    exact List.mem_singleton.mp this
theorem told_few (W : Wl ws n (letsOf ws)) (L : Lt ws m lot) (h2 : 2 ≤ m) {r : Option Nat} (T : Told ws m n lot r) : r = fewN ws := by
  have P := L.po
  have h0 : 0 < m := by omega
  have nh : ¬ Hang ws := fun h => by have := L.hang.mp h; omega
  have sing := single W L h2
  have oneIff : One ws ↔ (tops m (lle ws lot)).length = 1 ∧ (tops m (flip2 (lle ws lot))).length = 1 ∧ ArcP ws lot ((tops m (lle ws lot)).getD 0 0) ((tops m (flip2 (lle ws lot))).getD 0 0) := by
    refine sing.trans ⟨?_, ?_⟩
    · rintro ⟨e, s, h1, h3, h4⟩
      rw [(uniq_iff P h0).mp h1, (uniq_iff P.flip h0).mp h3]
      exact ⟨rfl, rfl, h4⟩
    · rintro ⟨h1, h3, h4⟩
      obtain ⟨e, he⟩ := one_of h1
      obtain ⟨s, hs⟩ := one_of h3
      rw [he, hs] at h4
      exact ⟨e, s, (uniq_iff P h0).mpr he, (uniq_iff P.flip h0).mpr hs, h4⟩
  unfold fewN
  rw [if_neg nh]
  by_cases h1 : One ws
  · rw [if_pos h1]
    obtain ⟨a, b, c⟩ := oneIff.mp h1
    exact T.one a b c
  · rw [if_neg h1]
    have dbl := double W L h2 h1
    by_cases hb : 2 < (tops m (lle ws lot)).length ∨ 2 < (tops m (flip2 (lle ws lot))).length
    · rw [T.many hb, if_neg]
      intro h
      rcases dbl.mp h with ⟨_, e, s, u1, u2, _⟩ | ⟨i, j, k, l, _, _, S⟩
      · rw [(uniq_iff P h0).mp u1, (uniq_iff P.flip h0).mp u2] at hb
        simp at hb
      · obtain ⟨hm, hn⟩ := two_sg h2 S
        have := tops_le2 hm
        have := tops_le2 hn
        omega
    · rcases T.rest hb fun h => h1 (oneIff.mpr h) with ⟨hr, h⟩ | ⟨hr, hl, ha⟩
      · rw [hr, if_pos]
        refine dbl.mpr ?_
        rcases h with ⟨n3, l1, l2, lg⟩ | ⟨a, b, h3, h4, S⟩
        · obtain ⟨e, he⟩ := one_of l1
          obtain ⟨s, hs⟩ := one_of l2
          rw [he, hs] at lg
          exact .inl ⟨n3, e, s, (uniq_iff P h0).mpr he, (uniq_iff P.flip h0).mpr hs, lg⟩
        · exact .inr ⟨_, _, _, _, h3, h4, S⟩
      · rw [hr, if_neg]
        intro h
        rcases dbl.mp h with ⟨n3, e, s, u1, u2, lg⟩ | ⟨i, j, k, l, a1, a2, S⟩
        · refine hl ⟨n3, ?_⟩
          rw [(uniq_iff P h0).mp u1, (uniq_iff P.flip h0).mp u2]
          exact ⟨rfl, rfl, lg⟩
        · have no : ¬ ((tops m (lle ws lot)).length = 1 ∧ (tops m (flip2 (lle ws lot))).length = 1 ∧ ((i = (tops m (lle ws lot)).getD 0 0 ∧ j = (tops m (flip2 (lle ws lot))).getD 0 0) ∨ (k = (tops m (lle ws lot)).getD 0 0 ∧ l = (tops m (flip2 (lle ws lot))).getD 0 0))) := by
            rintro ⟨x1, x2, x3⟩
            refine h1 (oneIff.mpr ⟨x1, x2, ?_⟩)
            rcases x3 with ⟨e1, e2⟩ | ⟨e1, e2⟩
            · rw [← e1, ← e2]
              exact a1
            · rw [← e1, ← e2]
              exact a2
          rcases sel_pair h2 S no P with ⟨s1, s2⟩ | ⟨s1, s2⟩
          · exact ha (i, j) (k, l) a1 a2 s1 s2 S
          · exact ha (k, l) (i, j) a2 a1 s1 s2 (two_swap S)
/-! ### windows of two letters -/
theorem arc_free (W : Wl ws n (letsOf ws)) (L : Lt ws m lot) (n2 : n = 2) {i j : Nat} (hi : i < m) (hj : j < m) (hne : i ≠ j) (no : ¬ lle ws lot i j) : ArcP ws lot i j := by
  obtain ⟨p, hp, rfl⟩ := L.on i hi
  obtain ⟨q, hq, rfl⟩ := L.on j hj
  have lp := W.plc hp
  have lq := W.plc hq
  have e1 : endS p = begS q := sg_inj (by
    have h1 : (sg (endS p)).length = 0 := by
      show (endS p).length = 0
      rw [len_end]
      omega
    have h2 : (sg (begS q)).length = 0 := by
      show (begS q).length = 0
      rw [len_beg]
      omega
    rw [List.length_eq_zero_iff.mp h1, List.length_eq_zero_iff.mp h2])
  refine ⟨hne, p, q, hp, hq, rfl, rfl, e1, fun h => no ?_⟩
  have e2 := end_is lp.2 lq.2 e1
  exact (L.le hp hq).mpr (Rch.refl.step (nxts_mem.mpr ⟨_, h, beg_put _ _, e2⟩))
theorem few_two (W : Wl ws n (letsOf ws)) (L : Lt ws m lot) (h2 : 2 ≤ m) (n2 : n = 2) (e2 : (tops m (lle ws lot)).length ≤ 2) (s2 : (tops m (flip2 (lle ws lot))).length ≤ 2) : fewN ws = some (max (tops m (lle ws lot)).length (tops m (flip2 (lle ws lot))).length) := by
  have P := L.po
  have h0 : 0 < m := by omega
  have nh : ¬ Hang ws := fun h => by have := L.hang.mp h; omega
  have sing := single W L h2
  have p1 := tops_pos P h0
  have p2 := tops_pos P.flip h0
  have topA : ∀ {e j : Nat}, Mx m (lle ws lot) e → j < m → e ≠ j → ArcP ws lot e j := fun he hj hne => arc_free W L n2 he.1 hj hne fun h => hne (he.2 _ h).symm
  have botA : ∀ {i s : Nat}, Mx m (flip2 (lle ws lot)) s → i < m → i ≠ s → ArcP ws lot i s := fun hs hi hne => arc_free W L n2 hi hs.1 hne fun h => hne (hs.2 _ h)
  unfold fewN
  rw [if_neg nh]
  by_cases h11 : (tops m (lle ws lot)).length = 1 ∧ (tops m (flip2 (lle ws lot))).length = 1
  · obtain ⟨e, he⟩ := one_of h11.1
    obtain ⟨s, hs⟩ := one_of h11.2
    have u1 := (uniq_iff P h0).mpr he
    have u2 := (uniq_iff P.flip h0).mpr hs
    have h1 : One ws := sing.mpr ⟨e, s, u1, u2, topA (tops_mem.mp (by rw [he]; simp)) (tops_mem.mp (show s ∈ tops m (flip2 (lle ws lot)) by rw [hs]; simp)).1 (all_one P h2 u1 u2)⟩
    rw [if_pos h1, h11.1, h11.2]
    rfl
  · have h1 : ¬ One ws := fun h => by
      obtain ⟨e, s, u1, u2, _⟩ := sing.mp h
      exact h11 (by rw [(uniq_iff P h0).mp u1, (uniq_iff P.flip h0).mp u2]; exact ⟨rfl, rfl⟩)
    have hmax : max (tops m (lle ws lot)).length (tops m (flip2 (lle ws lot))).length = 2 := by omega
    rw [if_neg h1, hmax, if_pos]
    refine (double W L h2 h1).mpr (.inr ?_)
    have mE : ∀ i, Mx m (lle ws lot) i ↔ i ∈ tops m (lle ws lot) := fun i => tops_mem.symm
    have mS : ∀ i, Mx m (flip2 (lle ws lot)) i ↔ i ∈ tops m (flip2 (lle ws lot)) := fun i => tops_mem.symm
    have ndE := tops_nd m (lle ws lot)
    have ndS := tops_nd m (flip2 (lle ws lot))
    by_cases hE2 : (tops m (lle ws lot)).length = 2
    · obtain ⟨e0, e1, hE⟩ := two_of hE2
      rw [hE] at mE ndE
      have e01 : e0 ≠ e1 := fun e => (List.nodup_cons.mp ndE).1 (by rw [e]; simp)
      have t0 := (mE e0).mpr (by simp)
      have t1 := (mE e1).mpr (by simp)
      have top : ∀ i, i < m → lle ws lot i e0 ∨ lle ws lot i e1 := fun i hi => by
        obtain ⟨t, ht, h⟩ := P.top hi
        have := (mE t).mp ht
        simp at this
        rcases this with rfl | rfl
        · exact .inl h
        · exact .inr h
      by_cases hS2 : (tops m (flip2 (lle ws lot))).length = 2
      · obtain ⟨s0, s1, hS⟩ := two_of hS2
        rw [hS] at mS ndS
        have s01 : s0 ≠ s1 := fun e => (List.nodup_cons.mp ndS).1 (by rw [e]; simp)
        have b0 := (mS s0).mpr (by simp)
        have b1 := (mS s1).mpr (by simp)
        have bot : ∀ i, i < m → lle ws lot s0 i ∨ lle ws lot s1 i := fun i hi => by
          obtain ⟨t, ht, h⟩ := P.bot hi
          have := (mS t).mp ht
          simp at this
          rcases this with rfl | rfl
          · exact .inl h
          · exact .inr h
        -- a matching: x below e1, y below e0
        have mat : ∃ x y, (x = s0 ∧ y = s1 ∨ x = s1 ∧ y = s0) ∧ lle ws lot x e1 ∧ lle ws lot y e0 := by
          rcases bot e1 t1.1 with h | h
          · rcases bot e0 t0.1 with h' | h'
            · rcases top s1 b1.1 with h'' | h''
              · exact ⟨s0, s1, .inl ⟨rfl, rfl⟩, h, h''⟩
              · exact ⟨s1, s0, .inr ⟨rfl, rfl⟩, h'', h'⟩
            · exact ⟨s0, s1, .inl ⟨rfl, rfl⟩, h, h'⟩
          · rcases bot e0 t0.1 with h' | h'
            · exact ⟨s1, s0, .inr ⟨rfl, rfl⟩, h, h'⟩
            · rcases top s0 b0.1 with h'' | h''
              · exact ⟨s1, s0, .inr ⟨rfl, rfl⟩, h, h''⟩
              · exact ⟨s0, s1, .inl ⟨rfl, rfl⟩, h'', h'⟩
        obtain ⟨x, y, hxy, hx, hy⟩ := mat
        have xm := (P.lt _ _ hx).1
        have ym := (P.lt _ _ hy).1
        have e0x : e0 ≠ x := fun e => e01 (t0.2 _ (by rw [e]; exact hx)).symm
        have e1y : e1 ≠ y := fun e => e01 (t1.2 _ (by rw [e]; exact hy))
        have bot2 : ∀ j, j < m → lle ws lot x j ∨ lle ws lot y j := fun j hj => by
          rcases hxy with ⟨rfl, rfl⟩ | ⟨rfl, rfl⟩
          · exact bot j hj
          · exact (bot j hj).symm
        refine ⟨e0, x, e1, y, topA t0 xm e0x, topA t1 ym e1y, fun i j hi hj => ?_⟩
        have g0 : ∀ {i : Nat}, lle ws lot i e0 → Ga (lle ws lot) (Arc2 e0 x e1 y) i x := fun h => .arc (.le h) (.inl ⟨rfl, rfl⟩) (P.rf _ xm)
        have g1 : ∀ {i : Nat}, lle ws lot i e1 → Ga (lle ws lot) (Arc2 e0 x e1 y) i y := fun h => .arc (.le h) (.inr ⟨rfl, rfl⟩) (P.rf _ ym)
        have toX : Ga (lle ws lot) (Arc2 e0 x e1 y) i x := by
          rcases top i hi with h | h
          · exact g0 h
          · exact (g1 h).trans P (g0 hy)
        have toY : Ga (lle ws lot) (Arc2 e0 x e1 y) i y := by
          rcases top i hi with h | h
          · exact (g0 h).trans P (g1 hx)
          · exact g1 h
        rcases bot2 j hj with h | h
        · exact toX.on P h
        · exact toY.on P h
      · obtain ⟨s, hs⟩ := one_of (show (tops m (flip2 (lle ws lot))).length = 1 by omega)
        have u2 := (uniq_iff P.flip h0).mpr hs
        have bs : Mx m (flip2 (lle ws lot)) s := tops_mem.mp (by rw [hs]; simp)
        have bot : ∀ j, j < m → lle ws lot s j := fun j hj => by
          obtain ⟨b, hb, h⟩ := P.bot hj
          rw [u2 b hb] at h
          exact h
        have e0s : e0 ≠ s := fun e => e01 (t0.2 _ (by rw [e]; exact bot e1 t1.1)).symm
        have e1s : e1 ≠ s := fun e => e01 (t1.2 _ (by rw [e]; exact bot e0 t0.1))
        refine ⟨e0, s, e1, s, topA t0 bs.1 e0s, topA t1 bs.1 e1s, fun i j hi hj => ?_⟩
        rcases top i hi with h | h
        · exact .arc (.le h) (.inl ⟨rfl, rfl⟩) (bot j hj)
        · exact .arc (.le h) (.inr ⟨rfl, rfl⟩) (bot j hj)
    · obtain ⟨e, he⟩ := one_of (show (tops m (lle ws lot)).length = 1 by omega)
      obtain ⟨s0, s1, hS⟩ := two_of (show (tops m (flip2 (lle ws lot))).length = 2 by omega)
      rw [hS] at mS ndS
      have s01 : s0 ≠ s1 := fun e => (List.nodup_cons.mp ndS).1 (by rw [e]; simp)
      have b0 := (mS s0).mpr (by simp)
      have b1 := (mS s1).mpr (by simp)
      have u1 := (uniq_iff P h0).mpr he
      have te : Mx m (lle ws lot) e := tops_mem.mp (by rw [he]; simp)
      have top : ∀ i, i < m → lle ws lot i e := fun i hi => by
        obtain ⟨b, hb, h⟩ := P.top hi
        rw [u1 b hb] at h
        exact h
      have es0 : e ≠ s0 := fun q => s01 (b0.2 _ (by rw [← q]; exact top s1 b1.1)).symm
      have es1 : e ≠ s1 := fun q => s01 (b1.2 _ (by rw [← q]; exact top s0 b0.1))
      refine ⟨e, s0, e, s1, topA te b0.1 es0, topA te b1.1 es1, fun i j hi hj => ?_⟩
      obtain ⟨b, hb, h⟩ := P.bot hj
      have := (mS b).mp hb
      simp at this
      rcases this with rfl | rfl
      · exact .arc (.le (top i hi)) (.inl ⟨rfl, rfl⟩) h
      · exact .arc (.le (top i hi)) (.inr ⟨rfl, rfl⟩) h
end
end My

/-! ranges as values; dicts of truths with numbers or pairs as keys -/
namespace My
open PySem PySem.Spec PyProof.Rows L2 Evl
section
variable {X : Cx} {tg : Expr}
/-- a block in a block -/
theorem relab {en : Env} : ∀ {names : List (Str × NameKind)} {x : Str}, names.lookup x = some .cell ∨ names.lookup x = some .free →
    (names.map fun (n, k) => if (k == NameKind.free && en.scope.kind == .function && en.kindOf n == some .cell) then (n, NameKind.cell) else (n, k)).lookup x = some .cell ∨ (names.map fun (n, k) => if (k == NameKind.free && en.scope.kind == .function && en.kindOf n == some .cell) then (n, NameKind.cell) else (n, k)).lookup x = some .free
  | [], _, h => by simp at h
  | (n, k) :: r, x, h => by
    have ih := @relab en r x
    show List.lookup x ((if (k == NameKind.free && en.scope.kind == .function && en.kindOf n == some .cell) = true then (n, NameKind.cell) else (n, k)) :: _) = _ ∨ List.lookup x ((if (k == NameKind.free && en.scope.kind == .function && en.kindOf n == some .cell) = true then (n, NameKind.cell) else (n, k)) :: _) = _
    cases hx : x == n with
    | true =>
      simp only [List.lookup_cons, hx] at h
      by_cases hc : (k == NameKind.free && en.scope.kind == .function && en.kindOf n == some .cell) = true
      · rw [if_pos hc]; simp only [List.lookup_cons, hx]; exact .inl trivial
      · rw [if_neg hc]; simp only [List.lookup_cons, hx]; exact h
    | false =>
      simp only [List.lookup_cons, hx] at h
      by_cases hc : (k == NameKind.free && en.scope.kind == .function && en.kindOf n == some .cell) = true
      · rw [if_pos hc]; simp only [List.lookup_cons, hx]; exact ih h
      · rw [if_neg hc]; simp only [List.lookup_cons, hx]; exact ih h
theorem blkOk_in {N : List Str} {sc scope : Scope} {own : List (Str × Nat)} {s : Shared} {H : Hp} {C : Addr} {cl : List (Str × Addr)} {en : Env} {fp : List Addr} (h : blkC N sc scope own = true) : BlkOk N (X.blk s H sc (compEnvC sc cl C en) fp).env.scope scope own := by
  obtain ⟨h1, h2, h3, h4, h5⟩ := blkOk_by h
  exact ⟨h1, h2, h3, fun y hy e => (relab (h4 y hy e)), h5⟩
theorem cr_range1 : CallR X (.type "range") (fun vs H Q => ∃ j, vs = [V.int j] ∧ ∀ p, H p = none → Q (.ref p) (upd H p (.rng 0 j))) := by
  intro pins s σ H vs us Q I r h
  obtain ⟨j, rfl, q⟩ := h
  obtain ⟨u, rfl, ru⟩ := vals1 r
  obtain ⟨t, rfl⟩ := ru
  refine call_range_1 ⟨.ref s.heap.objs.size, upd H s.heap.objs.size (.rng 0 j), I.laid (t' := s.toks + 1 + 1) (fun b o e => Heap.get?_push_of_some _ e) (Nat.le_refl _) ?_, rfl, q _ (I.hok.fresh (Nat.le_refl _))⟩
  exact ⟨s.toks, t, s.toks + 1, Heap.get?_push_size _ rfl⟩
def iRngV (tl : TE) : TI := fun σ H R => tl σ H fun x H1 => ∃ a lo hi, x = .ref a ∧ H1 a = some (.rng lo hi) ∧ (-(2 ^ 62) ≤ lo ∧ lo < 2 ^ 62 ∧ -(2 ^ 62) ≤ hi ∧ hi < 2 ^ 62) ∧ R (Itr lo (hi - lo).toNat) H1
theorem pi_rng {l : Expr} {tl : TE} (hl : PE X l tl) : PI X tg l (iRngV tl) := by
  refine ⟨fun pins s σ H R I h => ?_⟩
  refine thn (hl.run pins s σ H _ I h) fun v s1 ⟨x, H1, I1, r1, q1⟩ => ?_
  obtain ⟨a, lo, hi, e, ha, ⟨h1, h2, h3, h4⟩, q⟩ := q1
  subst e
  cases r1
  obtain ⟨t, u, v, ho⟩ := I1.hok a _ ha
  refine wpAny_pyIter_range ho (small_one h1 h2 h3 h4) ?_
  refine ⟨s1.heap.objs.size, [s1.heap.objs.size], _, _, H1, rfl, I1.kept (t' := s1.toks) fun b o e => Heap.get?_push_of_some _ e, turn_range _ lo (hi - lo).toNat, ?_, fun b hb => ?_, q⟩
  · have e1 : lo + ((0 : Nat) : Int) * 1 = lo := by simp
    have e2 : (((hi - lo).toNat : Nat) : Int) - ((0 : Nat) : Int) = Builtin.Range.rangeSize lo hi 1 := by rw [rangeSize_one]; split <;> omega
    show IsRangeIter _ _ (lo + ((0 : Nat) : Int) * 1) ((((hi - lo).toNat : Nat) : Int) - ((0 : Nat) : Int)) 1
    rw [e1, e2]
    exact Heap.get?_push_size _ rfl
  · have e : b = s1.heap.objs.size := by simpa using hb
    subst e
    exact I1.fpOk (Nat.le_refl _) (I1.hok.fresh (Nat.le_refl _))
end
/-- a list or a text, walked -/
def iOr (t u : TI) : TI := fun σ H R => t σ H R ∨ u σ H R
theorem pi_or {X : Cx} {tg e : Expr} {t u : TI} (h1 : PI X tg e t) (h2 : PI X tg e u) : PI X tg e (iOr t u) := ⟨fun pins s σ H R I h => h.elim (fun h => h1.run pins s σ H R I h) fun h => h2.run pins s σ H R I h⟩
/-! ### sorted of a tuple of texts -/
section
variable {X : Cx} {K : PySem.W.Frag}
def rSortTp (K : PySem.W.Frag) : List V → Hp → VK → Prop := fun xs H Q => ∃ (a : Addr) (ks : List Str), xs = [.ref a] ∧ SqT K H a (ks.map V.str) ∧ ks.length ≤ 100000 ∧ ∀ p, H p = none → Q (.ref p) (upd H p (.lst ((sortS ks).map V.str)))
theorem cr_sortTp (hu : X.A.units + 64 < cLine) (hK : X.K = K := by rfl) : CallR X (.builtin "sorted") (rSortTp K) := by
  subst hK
  intro pins st σ H xs us Q I r q
  obtain ⟨a, ks, rfl, hs, hmax, q⟩ := q
  obtain ⟨its, rv, ⟨o, ho, hc, n, hd⟩, _⟩ := I.tuple hs
  rw [Vals.ref1 r]
  have big : 100000 ≤ sizeLine := by decide
  have hS : StrsAre its ks := rv.strs
  have alen : its.length = ks.length := by rw [← rv.length, List.length_map]
  refine Calls.call_function_entry PyProof.Rows.kind_sorted PyProof.Rows.plain_sorted PyProof.Rows.entry_sorted (PyProof.Rows.args_sorted1 _) ?_
  unfold Builtin.«sorted»
  refine wpAny_bind (m := checkCount "sorted" 1 1 _) (wpAny_pure ?_)
  refine wpAny_bind (wpAny_collect_seq a (.inr rfl) ho hc hd (fun h2 kept => ?_) (by rw [List.size_toArray]; omega))
  have I2 : Inv X pins σ H { st with heap := h2 } := I.kept (t' := st.toks) kept
  refine wpAny_bind (wpAny_newList ?_ (by show its.length ≤ _; omega))
  have hobj : (h2.push (seqObj "list" its.toArray 0)).get? h2.objs.size = some (seqObj "list" its.toArray 0) := Heap.get?_push_size _ rfl
  show wpAny _ _ _ _ _ { st with heap := h2.push (seqObj "list" its.toArray 0) }
  refine wpAny_bind (wpAny_holding (PySem.W.list_sort_data (A := X.A.in1) (R := fun v (b : Str) => ∃ t, v = Value.str b t) (enc := fun b : Str => PyData.str b) (bs := ks) hobj (each_strs hS) ((each_strs hS).mono fun v b ⟨t, e⟩ => ?_)
    (PySem.W.AllAlike.of fun _ _ => rfl) (PySem.W.Sortable.others fun _ => ⟨(fun z => nomatch z), (fun _ z => nomatch z)⟩) (by omega) (fun b _ => ?_) fun out olen eo => ?_))
  · subst e
    exact ⟨[], .str b t, by simp⟩
  · show X.A.units + 1 + 1 + 0 < cLine
    omega
  rw [le_dataS] at eo
  have hS2 := strs_each eo
  obtain ⟨e', he'⟩ := PyProof.Rows.sortedHeap_at (vs := its) (out := out.toArray) hobj
  have l2 : ((sortS ks).map V.str).length ≤ sizeLine := by
    unfold sortS
    rw [List.length_map, List.length_mergeSort]
    omega
  refine wpAny_pure ⟨_, rfl, .ref h2.objs.size, upd H h2.objs.size (.lst ((sortS ks).map V.str)), I2.laid (t' := st.toks) (fun b u e => ?_) (Nat.le_refl _)
    (show ObjOk X.prog X.w _ _ _ (.lst ((sortS ks).map V.str)) from ⟨l2, out, e', vals_of_strs hS2, he'⟩), rfl, q _ (I2.hok.fresh (Nat.le_refl _))⟩
  have hb : b < h2.objs.size := Heap.lt_size e
  rw [PyProof.Rows.sortedHeap_old (Nat.ne_of_lt hb) (by rw [size_push']; exact Nat.lt_succ_of_lt hb)]
  exact Heap.get?_push_of_some _ e
end
/-! ### dicts of truths -/
section
variable {α κ : Type} [DecidableEq α] [DecidableEq κ] {e : α → κ}
def truG (e : α → κ) (ks : List α) : List (κ × V) := ks.map fun k => (e k, V.bl true)
def addN (ks : List α) (k : α) : List α := if k ∈ ks then ks else ks ++ [k]
def dedN (xs : List α) : List α := xs.foldl addN []
theorem addN_mem {ks : List α} {k z : α} : z ∈ addN ks k ↔ z ∈ ks ∨ z = k := by
  unfold addN
  split
  · rename_i h
    exact ⟨.inl, fun q => q.elim id fun e => e ▸ h⟩
  · rw [List.mem_append, List.mem_singleton]
theorem addN_nd {ks : List α} (h : ks.Nodup) (k : α) : (addN ks k).Nodup := by
  unfold addN
  split
  · exact h
  · rename_i hn
    exact List.nodup_append.mpr ⟨h, List.nodup_cons.mpr ⟨List.not_mem_nil, List.nodup_nil⟩, fun a ha b hb e => hn (by rw [← List.mem_singleton.mp hb, ← e]; exact ha)⟩
theorem addN_len (ks : List α) (k : α) : (addN ks k).length ≤ ks.length + 1 := by
  unfold addN
  split
  · omega
  · rw [List.length_append]
    exact Nat.le_refl _
theorem truG_len (ks : List α) : (truG e ks).length = ks.length := List.length_map ..
theorem truG_in (inj : ∀ a b, e a = e b → a = b) {k : α} : ∀ {ks : List α}, (valV (truG e ks) (e k)).isSome = decide (k ∈ ks)
  | [] => rfl
  | z :: ks => by
    by_cases h : z = k
    · subst h
      rw [show valV (truG e (z :: ks)) (e z) = some (V.bl true) from valV_pos rfl, decide_eq_true (List.mem_cons_self ..)]
      rfl
    · rw [show valV (truG e (z :: ks)) (e k) = valV (truG e ks) (e k) from valV_neg fun q => h (inj _ _ q), truG_in inj]
      refine decide_eq_decide.mpr ⟨List.mem_cons_of_mem _, fun q => (List.mem_cons.mp q).resolve_left fun q => h q.symm⟩
theorem truG_add (inj : ∀ a b, e a = e b → a = b) (ks : List α) (k : α) : putK (truG e ks) (e k) (V.bl true) = truG e (addN ks k) := by
  unfold addN
  by_cases h : k ∈ ks
  · rw [if_pos h]
    unfold putK
    rw [if_pos (by rw [valV_any, truG_in inj]; exact decide_eq_true h)]
    unfold truG
    rw [List.map_map]
    refine List.map_congr_left fun x _ => ?_
    show (if e x = e k then (e x, V.bl true) else (e x, V.bl true)) = _
    split <;> rfl
  · rw [if_neg h, putK_new _ (by
      have := truG_in (e := e) inj (k := k) (ks := ks)
      rw [decide_eq_false h] at this
      cases q : valV (truG e ks) (e k) with
      | none => rfl
      | some v => rw [q] at this; cases this)]
    unfold truG
    rw [List.map_append]
    rfl
theorem dedN_snoc (xs : List α) (x : α) : dedN (xs ++ [x]) = addN (dedN xs) x := by
  unfold dedN
  rw [List.foldl_append]
  rfl
theorem foldlN_nd : ∀ (xs acc : List α), acc.Nodup → (xs.foldl addN acc).Nodup
  | [], _, h => h
  | x :: xs, acc, h => foldlN_nd xs _ (addN_nd h x)
theorem dedN_nd (xs : List α) : (dedN xs).Nodup := foldlN_nd xs [] List.nodup_nil
theorem foldlN_mem {z : α} : ∀ (xs acc : List α), z ∈ xs.foldl addN acc ↔ z ∈ acc ∨ z ∈ xs
  | [], acc => ⟨.inl, fun h => h.resolve_right List.not_mem_nil⟩
  | x :: xs, acc => by
    rw [List.foldl_cons, foldlN_mem xs, addN_mem, List.mem_cons, or_assoc]
theorem dedN_mem {xs : List α} {z : α} : z ∈ dedN xs ↔ z ∈ xs := by
  rw [dedN, foldlN_mem]
  exact ⟨fun h => h.resolve_left List.not_mem_nil, .inr⟩
theorem foldlN_len : ∀ (xs acc : List α), (xs.foldl addN acc).length ≤ acc.length + xs.length
  | [], acc => Nat.le_refl _
  | x :: xs, acc => by
    have h1 := foldlN_len xs (addN acc x)
    have h2 := addN_len acc x
    rw [List.foldl_cons, List.length_cons]
    omega
theorem dedN_len (xs : List α) : (dedN xs).length ≤ xs.length := by
  have := foldlN_len xs []
  rw [List.length_nil, Nat.zero_add] at this
  exact this
end
abbrev kI (i : Nat) : Key := Sum.inl (i : Int)
theorem kI_inj (a b : Nat) (h : kI a = kI b) : a = b := Int.ofNat_inj.mp (Sum.inl.inj h)
def kP (p : Nat × Nat) : List Key := [kI p.1, kI p.2]
theorem kP_inj (a b : Nat × Nat) (h : kP a = kP b) : a = b := by
  unfold kP at h
  have h1 := List.cons.inj h
  have h2 := List.cons.inj h1.2
  exact Prod.ext (kI_inj _ _ h1.1) (kI_inj _ _ h2.1)
abbrev truI : List Nat → List (Key × V) := truG kI
abbrev truP : List (Nat × Nat) → List (List Key × V) := truG kP
theorem truP_in {ps : List (Nat × Nat)} {p : Nat × Nat} : (valV (truP ps) (kP p)).isSome = decide (p ∈ ps) := (truG_in kP_inj).trans (decide_eq_decide.mpr Iff.rfl)
/-! ### locks -/
theorem lk_foG {H : Hp} {d : Addr} {kvs : List (Key × V)} {td : TE} {g : TG} {tb : TS} {σ : L2.St} {D : Ends} (hd : H d = some (.dK kvs))
    (htd : ∀ (od : Obj) (R : VK), R (.ref d) (upd H d (.frz od (.dK kvs))) → td σ (upd H d (.frz od (.dK kvs))) R) (Pv : Obj → Nat → L2.St → Hp → Prop) (h0 : ∀ od, Pv od 0 σ (upd H d (.frz od (.dK kvs))))
    (hE : ∀ od i σ H', Pv od i σ H' → H' d = some (.frz od (.dK kvs)))
    (hs : ∀ (od : Obj) (i : Nat) (k : Key) (v : V) (σ' : L2.St) (H' : Hp), kvs[i]? = some (k, v) → Pv od i σ' H' → g (kV k) σ' H' fun σ2 H3 => tb { nx := Pv od (i + 1), ct := Pv od (i + 1), bk := fun σ3 H4 => H4 d = some (.frz od (.dK kvs)) ∧ D.nx σ3 (upd H4 d (.dK kvs)), rt := fun v H4 => H4 d = some (.frz od (.dK kvs)) ∧ D.rt v (upd H4 d (.dK kvs)) } σ2 H3)
    (he : ∀ od σ' H', Pv od kvs.length σ' H' → D.nx σ' (upd H' d (.dK kvs))) : tLock (tFor (iKeys td) g tb) D σ H := by
  refine ⟨d, _, hd, trivial, fun od => htd od _ ⟨d, od, rfl, .inl ⟨_, upd_same, ?_⟩⟩⟩
  refine ⟨fun i m σ H => m = kvs.length - i ∧ i ≤ kvs.length ∧ Pv od i σ H, ⟨_, rfl, Nat.zero_le _, h0 od⟩, ?_⟩
  rintro i m σ1 H1 ⟨rfl, hi, pv⟩
  have hf := hE od i σ1 H1 pv
  by_cases hlt : i < kvs.length
  · refine .inr ⟨⟨hf, hlt⟩, Pv od (i + 1), fun σ' H' p' => ⟨kvs.length - (i + 1), by omega, rfl, hlt, p'⟩, fun x H' y => ?_⟩
    obtain ⟨rfl, k, v, hk, rfl⟩ := y
    exact hs od i k v σ1 H' hk pv
  · obtain rfl : i = kvs.length := by omega
    exact .inl ⟨⟨hf, Nat.le_refl _⟩, hf, he od σ1 H1 pv⟩
/-- .. over an onward dict's numbers -/
theorem lk_foI {H : Hp} {d : Addr} {ks : List Nat} {td : TE} {g : TG} {tb : TS} {σ : L2.St} {D : Ends} (hd : H d = some (.dK (truI ks)))
    (htd : ∀ (od : Obj) (R : VK), R (.ref d) (upd H d (.frz od (.dK (truI ks)))) → td σ (upd H d (.frz od (.dK (truI ks)))) R) (Pv : Obj → Nat → L2.St → Hp → Prop) (h0 : ∀ od, Pv od 0 σ (upd H d (.frz od (.dK (truI ks)))))
    (hE : ∀ od i σ H', Pv od i σ H' → H' d = some (.frz od (.dK (truI ks))))
    (hs : ∀ (od : Obj) (i j : Nat) (σ' : L2.St) (H' : Hp), ks[i]? = some j → Pv od i σ' H' → g (.int j) σ' H' fun σ2 H3 => tb { nx := Pv od (i + 1), ct := Pv od (i + 1), bk := fun σ3 H4 => H4 d = some (.frz od (.dK (truI ks))) ∧ D.nx σ3 (upd H4 d (.dK (truI ks))), rt := fun v H4 => H4 d = some (.frz od (.dK (truI ks))) ∧ D.rt v (upd H4 d (.dK (truI ks))) } σ2 H3)
    (he : ∀ od σ' H', Pv od ks.length σ' H' → D.nx σ' (upd H' d (.dK (truI ks)))) : tLock (tFor (iKeys td) g tb) D σ H :=
  lk_foG hd htd Pv h0 hE (fun od i k v σ' H' hk pv => by
    unfold truI truG at hk
    rw [List.getElem?_map] at hk
    cases hz : ks[i]? with
    | none => rw [hz] at hk; cases hk
    | some j =>
      rw [hz] at hk
      cases hk
      exact hs od i j σ' H' hz pv) fun od σ' H' pv => he od σ' H' (by rw [truG_len] at pv; exact pv)
/-! ### lists of arcs -/
theorem Two.map {α β γ : Type} {R : β → γ → Prop} {f : α → β} : ∀ {as : List α} {bs : List γ}, Two (fun a b => R (f a) b) as bs → Two R (as.map f) bs
  | _, _, .nil => .nil
  | _, _, .cons h t => .cons h (Two.map t)
theorem range_get {α : Type} (ps : List α) (d : α) (f : α → Bool) : ((List.range ps.length).filter fun i => f (ps.getD i d)).map (fun i => ps.getD i d) = ps.filter f := by
  have e : (List.range ps.length).map (fun i => ps.getD i d) = ps := by
    apply List.ext_getElem
    · simp
    · intro i h1 h2
      rw [List.getElem_map, List.getElem_range, List.getD_eq_getElem?_getD, List.getElem?_eq_getElem h2]
      rfl
  have e2 : (fun i => f (ps.getD i d)) = f ∘ fun i => ps.getD i d := rfl
  rw [e2, ← List.filter_map, e]
def ArcAt (H : Hp) (p : Nat × Nat) (v : V) : Prop := ∃ q, v = .ref q ∧ H q = some (.tup [.int (p.1 : Int), .int (p.2 : Int)])
theorem ArcAt.ex {H H' : Hp} {p : Nat × Nat} {v : V} (e : Ex H H') (h : ArcAt H p v) : ArcAt H' p v := by
  obtain ⟨q, h1, h2⟩ := h
  exact ⟨q, h1, e _ _ h2⟩
def ArcsAt (H : Hp) (a : Addr) (l : List (Nat × Nat)) : Prop := ∃ acc, H a = some (.lst acc) ∧ Two (ArcAt H) l acc
theorem ArcsAt.ex {H H' : Hp} {a : Addr} {l : List (Nat × Nat)} (e : Ex H H') (h : ArcsAt H a l) : ArcsAt H' a l := by
  obtain ⟨acc, h1, h2⟩ := h
  exact ⟨acc, e _ _ h1, h2.imp fun _ _ h => h.ex e⟩
theorem src_keysT {Hb : Hp} {d : Addr} {o : Obj} {ps : List (Nat × Nat)} (h : Hb d = some (.frz o (.dT (truP ps)))) : Src (Itkt d o (truP ps)) Hb ps.length (fun i x H => ∃ p, ps[i]? = some p ∧ ArcAt H p x) := by
  have l : (truP ps).length = ps.length := truG_len ps
  refine ⟨fun i H2 e hi => ⟨e _ _ h, by rw [l]; exact hi⟩, fun i H2 e hi => ⟨e _ _ h, by rw [l]; exact hi⟩, fun i H2 x H3 e hi y => ?_⟩
  obtain ⟨rfl, k, v, q, hk, rfl, hq⟩ := y
  refine ⟨Ex.refl _, ?_⟩
  unfold truP truG at hk
  rw [List.getElem?_map] at hk
  cases hz : ps[i]? with
  | none =>
    rw [hz] at hk
    cases hk
  | some z =>
    rw [hz] at hk
    cases hk
    exact ⟨z, rfl, q, rfl, hq⟩
/-- a list of the arcs of a dict of arcs -/
theorem lkT_lc {H : Hp} {d : Addr} {ps : List (Nat × Nat)} {td : TE} {g : TG} {tt : TT} {te : TE} {vs : List Nat} {σ : L2.St} {Q : VK} (hd : H d = some (.dT (truP ps))) (hn : ps.length ≤ 1000000)
    (htd : ∀ (od : Obj) (R : VK), R (.ref d) (upd H d (.frz od (.dT (truP ps)))) → td σ (upd H d (.frz od (.dT (truP ps)))) R) (f : Nat × Nat → Bool)
    (hs : ∀ (od : Obj) (p : Nat × Nat) (x : V) (H2 : Hp) (Y : VK) (Z : Hp → Prop), p ∈ ps → Ex (upd H d (.frz od (.dT (truP ps)))) H2 → ArcAt H2 p x → (f p = true → ∀ H3, Ex H2 H3 → Y x H3) → (f p = false → ∀ H3, Ex H2 H3 → Z H3) →
      g x (wipe σ vs) H2 fun σ2 H3 => wipe σ2 vs = wipe σ vs ∧ tt σ2 H3 fun b H4 => if b = true then te σ2 H4 Y else Z H4)
    (q : ∀ D H', Ex H H' → H D = none → ArcsAt H' D (ps.filter f) → Q (.ref D) H') :
    tLockE (tLc (iKeys td) g tt te vs) σ H Q := by
  refine ⟨d, _, hd, trivial, fun od => htd od _ ⟨d, od, rfl, .inr ⟨_, upd_same, fun D np => ?_⟩⟩⟩
  have nD : H D = none := by
    rw [upd_ne fun e => by rw [e, upd_same] at np; cases np] at np
    exact np
  refine lc_gen (src_keysT upd_same) hn np (fun i => f (ps.getD i (0, 0))) (fun i v H => ArcAt H (ps.getD i (0, 0)) v) (fun i v H H' h e => h.ex e) (fun i v H acc acc' h6 h => ?_) (fun i x H2 Y Z hi e it hy hno => ?_) (fun H' acc e hD ha => ?_)
  · obtain ⟨q, h1, h2⟩ := h
    refine ⟨q, h1, ?_⟩
    rw [upd_ne fun z => by rw [z, h6] at h2; cases h2]
    exact h2
  · obtain ⟨p, hp, hx⟩ := it
    have e1 : ps.getD i (0, 0) = p := by rw [List.getD_eq_getElem?_getD, hp]; rfl
    rw [e1] at hy hno
    exact hs od p x H2 Y Z (List.mem_of_getElem? hp) e hx (fun hf H3 e3 => hy hf x H3 e3 (hx.ex e3)) hno
  · have hd' := e _ _ upd_same
    have Dd : D ≠ d := fun z => by
      rw [z, hd] at nD
      cases nD
    refine ⟨hd', q D _ (unlock_ex hd e) nD ⟨acc, by rw [upd_ne Dd]; exact hD, ?_⟩⟩
    have t := Two.map (R := ArcAt H') (f := fun i => ps.getD i (0, 0)) ha
    rw [range_get] at t
    refine t.imp fun p v h => ?_
    obtain ⟨q, h1, h2⟩ := h
    refine ⟨q, h1, ?_⟩
    rw [upd_ne fun z => by rw [z, hd'] at h2; cases h2]
    exact h2
/-! ### dicts of numbers made at once -/
theorem dc_truI {J : It} {H1 : Hp} {n : Nat} {item : Nat → V → Hp → Prop} {g : TG} {tt : TT} {tk tv : TE} {vs : List Nat} {σ : L2.St} {D : Addr} {Qd : Hp → Prop} (S : Src J H1 n item) (hn : n ≤ 1000000) (f : Nat → Bool) (F : Nat → Nat) (np : H1 D = none)
    (hs : ∀ (i : Nat) (x : V) (H2 : Hp) (C : V → V → Hp → Prop) (Z : Hp → Prop), i < n → Ex H1 H2 → item i x H2 → (f i = true → ∀ H3, Ex H2 H3 → C (.int (F i : Int)) (.bl true) H3) → (f i = false → ∀ H3, Ex H2 H3 → Z H3) →
      g x (wipe σ vs) H2 fun σ2 H3 => wipe σ2 vs = wipe σ vs ∧ tt σ2 H3 fun b H4 => if b = true then tk σ2 H4 fun y H5 => tv σ2 H5 fun v H6 => C y v H6 else Z H4)
    (hd : ∀ H', Ex H1 H' → H' D = some (.dK (truI (dedN (((List.range n).filter f).map F)))) → Qd H') : DcGo J H1 g tt tk tv vs σ D Qd := by
  have big : 1000000 < sizeLine := by decide
  refine ⟨fun i m H => m = n - i ∧ i ≤ n ∧ Ex H1 H ∧ H D = some (.dK (truI (dedN (((List.range i).filter f).map F)))), ⟨n, by simp, Nat.zero_le _, Ex.new np, upd_same⟩, ?_⟩
  rintro i m H ⟨rfl, hi, e, hD⟩
  by_cases hlt : i < n
  · refine .inr ⟨S.go i H e hlt, fun H' => Ex H1 H' ∧ H' D = some (.dK (truI (dedN (((List.range (i + 1)).filter f).map F)))), fun H' p' => ⟨n - (i + 1), by omega, rfl, hlt, p'⟩, fun x H' y => ?_⟩
    obtain ⟨e2, it⟩ := S.yld i H x H' e hlt y
    refine hs i x H' _ _ hlt (e.trans e2) it (fun hf H6 e6 => ?_) (fun hf H5 e5 => ?_)
    · have h6 := (e2.trans e6) _ _ hD
      refine ⟨_, kI (F i), rfl, h6, ?_, Ex.mut (e.trans (e2.trans e6)) np, ?_⟩
      · have l1 := dedN_len (((List.range i).filter f).map F)
        have l2 := List.length_filter_le f (List.range i)
        rw [List.length_range] at l2
        rw [List.length_map] at l1
        rw [truG_len]
        omega
      · rw [upd_same, truG_add kI_inj, List.range_succ, List.filter_append, List.filter_cons_of_pos hf, List.map_append]
        rw [show List.map F (i :: List.filter f []) = [F i] from rfl, dedN_snoc]
    · refine ⟨e.trans (e2.trans e5), ?_⟩
      rw [List.range_succ, List.filter_append, List.filter_cons_of_neg (by rw [hf]; exact Bool.false_ne_true), List.filter_nil, List.append_nil]
      exact (e2.trans e5) _ _ hD
  · obtain rfl : i = n := by omega
    exact .inl ⟨S.stop i H e (Nat.le_refl _), hd H e hD⟩
/-! ### a list of dicts of numbers: what each lot comes to -/
def RowI (H : Hp) (P : Nat → Prop) (v : V) : Prop := ∃ r ks, v = .ref r ∧ H r = some (.dK (truI ks)) ∧ ks.Nodup ∧ ∀ j, j ∈ ks ↔ P j
theorem RowI.ex {H H' : Hp} {P : Nat → Prop} {v : V} (e : Ex H H') (h : RowI H P v) : RowI H' P v := by
  obtain ⟨r, ks, h1, h2, h3⟩ := h
  exact ⟨r, ks, h1, e _ _ h2, h3⟩
theorem RowI.mut {H : Hp} {P : Nat → Prop} {v : V} {D : Addr} {acc acc' : List V} (hD : H D = some (.lst acc)) (h : RowI H P v) : RowI (upd H D (.lst acc')) P v := by
  obtain ⟨r, ks, h1, h2, h3⟩ := h
  refine ⟨r, ks, h1, ?_, h3⟩
  rw [upd_ne fun z => by rw [z, hD] at h2; cases h2]
  exact h2
/-- the list at o has, for each of m, the dict of those above it -/
def Onw (H : Hp) (o : Addr) (m : Nat) (le : Nat → Nat → Prop) : Prop := ∃ acc, H o = some (.lst acc) ∧ acc.length = m ∧ ∀ i, i < m → ∃ v, acc[i]? = some v ∧ RowI H (le i) v
theorem Onw.ex {H H' : Hp} {o : Addr} {m : Nat} {le : Nat → Nat → Prop} (e : Ex H H') (h : Onw H o m le) : Onw H' o m le := by
  obtain ⟨acc, h1, h2, h3⟩ := h
  exact ⟨acc, e _ _ h1, h2, fun i hi => by
    obtain ⟨v, a, b⟩ := h3 i hi
    exact ⟨v, a, b.ex e⟩⟩
theorem onw_two {H : Hp} {o : Addr} {m : Nat} {le : Nat → Nat → Prop} {acc : List V} (h : H o = some (.lst acc)) (t : Two (fun i v => RowI H (le i) v) (List.range m) acc) : Onw H o m le := by
  refine ⟨acc, h, by rw [t.len, List.length_range], fun i hi => ?_⟩
  exact t.get (List.getElem?_range hi)
/-- how many there are below m -/
theorem all_len {m : Nat} {ks : List Nat} (nd : ks.Nodup) (lt : ∀ j ∈ ks, j < m) : ks.length = m ↔ ∀ j, j < m → j ∈ ks := by
  constructor
  · intro h j hj
    by_cases hn : j ∈ ks
    · exact hn
    · exfalso
      have := nodup_len (ks := j :: ks) (l := List.range m) (List.nodup_cons.mpr ⟨hn, nd⟩) fun y hy => List.mem_range.mpr ((List.mem_cons.mp hy).elim (fun e => e ▸ hj) (lt y))
      rw [List.length_range, List.length_cons] at this
      omega
  · intro h
    have h1 := nodup_len nd (l := List.range m) fun y hy => List.mem_range.mpr (lt y hy)
    have h2 := nodup_len (ks := List.range m) (l := ks) List.nodup_range fun y hy => h y (List.mem_range.mp hy)
    rw [List.length_range] at h1 h2
    omega
theorem one_len {ks : List Nat} (nd : ks.Nodup) {i : Nat} (hi : i ∈ ks) : ks.length = 1 ↔ ∀ j ∈ ks, j = i := by
  constructor
  · intro h j hj
    match ks, h with
    | [a], _ =>
      rw [List.mem_singleton.mp hi, List.mem_singleton.mp hj]
  · intro h
    have h1 := nodup_len nd (l := [i]) fun y hy => by rw [h y hy]; exact List.mem_singleton.mpr rfl
    have h2 : 0 < ks.length := List.length_pos_of_mem hi
    have h3 : [i].length = 1 := rfl
    omega
/-! ### what two arcs let come to, step by step -/
def Fst (le : Nat → Nat → Prop) (a b c d : Nat) : Nat → Nat → Prop
  | 0, j => le 0 j
  | k + 1, j => Fst le a b c d k j ∨ (if k % 2 = 0 then Fst le a b c d k a ∧ le b j else Fst le a b c d k c ∧ le d j)
theorem fst_ga {m : Nat} {le : Nat → Nat → Prop} (P : Po m le) {a b c d : Nat} : ∀ {k j : Nat}, Fst le a b c d k j → Ga le (Arc2 a b c d) 0 j
  | 0, j, h => .le h
  | k + 1, j, h => by
    unfold Fst at h
    rcases h with h | h
    · exact fst_ga P h
    · split at h
      · exact .arc (fst_ga P h.1) (.inl ⟨rfl, rfl⟩) h.2
      · exact .arc (fst_ga P h.1) (.inr ⟨rfl, rfl⟩) h.2
theorem fst_four {m : Nat} {le : Nat → Nat → Prop} (P : Po m le) {a b c d j : Nat} : Fst le a b c d 4 j ↔ Com le a b c d j := by
  refine ⟨fun h => (com_ga P).mpr (fst_ga P h), fun h => ?_⟩
  have up : ∀ {k j}, Fst le a b c d k j → Fst le a b c d (k + 1) j := fun h => .inl h
  have s0 : ∀ {j}, le 0 j → Fst le a b c d 0 j := fun h => h
  have s1 : ∀ {k j}, k % 2 = 0 → Fst le a b c d k a → le b j → Fst le a b c d (k + 1) j := fun hk h h2 => .inr (by rw [if_pos hk]; exact ⟨h, h2⟩)
  have s2 : ∀ {k j}, ¬ k % 2 = 0 → Fst le a b c d k c → le d j → Fst le a b c d (k + 1) j := fun hk h h2 => .inr (by rw [if_neg hk]; exact ⟨h, h2⟩)
  rcases h with h | ⟨h1, h2⟩ | ⟨h1, h2⟩ | ⟨h1, h2, h3⟩ | ⟨h1, h2, h3⟩
  · exact up (up (up (up (s0 h))))
  · exact up (up (up (s1 rfl (s0 h1) h2)))
  · exact up (up (s2 (by decide) (up (s0 h1)) h2))
  · exact up (up (s2 (by decide) (s1 rfl (s0 h1) h2) h3))
  · exact up (s1 rfl (s2 (by decide) (up (s0 h1)) h2) h3)
theorem fst_lt {m : Nat} {le : Nat → Nat → Prop} (P : Po m le) {a b c d : Nat} {k j : Nat} (h : Fst le a b c d k j) : j < m := by
  cases fst_ga P h with
  | le h => exact (P.lt _ _ h).2
  | arc _ _ h => exact (P.lt _ _ h).2
end My

/-! how lots are numbered -/
namespace My
open PySem PySem.Spec PyProof.Rows L2 Evl
def Mut2 (ws : List Str) (p q : Str) : Prop := Rch (nxts ws) p q ∧ Rch (nxts ws) q p
noncomputable def muB (ws : List Str) (p q : Str) : Bool := rchB ws p q && rchB ws q p
theorem muB_iff {ws : List Str} {p q : Str} : muB ws p q = true ↔ Mut2 ws p q := by
  unfold muB Mut2
  rw [Bool.and_eq_true, rchB_iff, rchB_iff]
section
variable {ws : List Str}
theorem Mut2.rf {p : Str} : Mut2 ws p p := ⟨.refl, .refl⟩
theorem Mut2.sy {p q : Str} (h : Mut2 ws p q) : Mut2 ws q p := ⟨h.2, h.1⟩
theorem Mut2.tr {p q r : Str} (h : Mut2 ws p q) (h2 : Mut2 ws q r) : Mut2 ws p r := ⟨h.1.trans h2.1, h2.2.trans h.2⟩
structure Kn (ws ks fs : List Str) (lt : Str → Nat) : Prop where
  nd : ks.Nodup
  pl : ∀ f ∈ fs, f ∈ plcs ws
  on : ∀ z ∈ ks, z ∈ plcs ws ∧ ∃ f, fs[lt z]? = some f ∧ Mut2 ws f z
  cl : ∀ a f, fs[a]? = some f → ∀ z, Mut2 ws f z → z ∈ ks ∧ lt z = a
theorem Kn.start (lt : Str → Nat) : Kn ws [] [] lt := ⟨List.nodup_nil, fun f h => (List.not_mem_nil h).elim, fun f h => (List.not_mem_nil h).elim, fun a f h => by simp at h⟩
noncomputable def lt2 (ws : List Str) (p : Str) (n : Nat) (lt : Str → Nat) (z : Str) : Nat := if muB ws p z = true then n else lt z
theorem Kn.far {ks fs : List Str} {lt : Str → Nat} (k : Kn ws ks fs lt) {p : Str} (hp : p ∉ ks) {z : Str} (hz : z ∈ ks) : ¬ Mut2 ws p z := fun h => by
  obtain ⟨_, f, hf, hm⟩ := k.on z hz
  exact hp (k.cl _ f hf p (hm.tr h.sy)).1
theorem Kn.keep {ks fs : List Str} {lt : Str → Nat} (k : Kn ws ks fs lt) {p : Str} (hp : p ∉ ks) {z : Str} (hz : z ∈ ks) (n : Nat) : lt2 ws p n lt z = lt z := by
  unfold lt2
  rw [if_neg fun h => k.far hp hz (muB_iff.mp h)]
theorem Kn.step {ks fs : List Str} {lt : Str → Nat} (k : Kn ws ks fs lt) {p : Str} (hp : p ∉ ks) (pp : p ∈ plcs ws) {rs : List Str} (nd : rs.Nodup) (mem : ∀ q, q ∈ rs ↔ Rch (nxts ws) p q) : Kn ws (ks ++ rs.filter (muB ws p)) (fs ++ [p]) (lt2 ws p fs.length lt) := by
  have hnew : ∀ z, z ∈ rs.filter (muB ws p) ↔ Mut2 ws p z := fun z => by
    rw [List.mem_filter, mem, muB_iff]
    exact ⟨fun h => h.2, fun h => ⟨h.1, h⟩⟩
  refine ⟨List.nodup_append.mpr ⟨k.nd, nd.filter _, fun a ha b hb e => k.far hp ha ((hnew a).mp (e ▸ hb))⟩, fun f hf => ?_, fun z hz => ?_, fun a f hf z hm => ?_⟩
  · rcases List.mem_append.mp hf with h | h
    · exact k.pl f h
    · rw [List.mem_singleton.mp h]
      exact pp
  · rcases List.mem_append.mp hz with h | h
    · obtain ⟨h1, f, hf, hm⟩ := k.on z h
      refine ⟨h1, f, ?_, hm⟩
      rw [k.keep hp h, List.getElem?_append_left (List.getElem?_eq_some_iff.mp hf).1]
      exact hf
    · have hm := (hnew z).mp h
      refine ⟨rch_plc pp hm.1, p, ?_, hm⟩
      unfold lt2
      rw [if_pos (muB_iff.mpr hm), List.getElem?_append_right (Nat.le_refl _), Nat.sub_self]
      rfl
  · by_cases ha : a < fs.length
    · rw [List.getElem?_append_left ha] at hf
      obtain ⟨h1, h2⟩ := k.cl a f hf z hm
      exact ⟨List.mem_append_left _ h1, by rw [k.keep hp h1, h2]⟩
    · rw [List.getElem?_append_right (by omega)] at hf
      have h0 : a - fs.length = 0 := by
        by_cases h : a - fs.length = 0
        · exact h
        · rw [List.getElem?_eq_none (by show 1 ≤ _; omega)] at hf
          cases hf
      rw [h0] at hf
      cases hf
      refine ⟨List.mem_append_right _ ((hnew z).mpr hm), ?_⟩
      unfold lt2
      rw [if_pos (muB_iff.mpr hm)]
      omega
theorem Kn.fs_nd {ks fs : List Str} {lt : Str → Nat} (k : Kn ws ks fs lt) : fs.Nodup := by
  rw [List.nodup_iff_pairwise_ne, List.pairwise_iff_getElem]
  intro a b ha hb hab e
  have h1 := (k.cl a _ (List.getElem?_eq_getElem ha) _ .rf).2
  have h2 := (k.cl b _ (List.getElem?_eq_getElem hb) _ .rf).2
  rw [e] at h1
  omega
theorem Kn.fs_len {ks fs : List Str} {lt : Str → Nat} (k : Kn ws ks fs lt) : fs.length ≤ ks.length :=
  nodup_len k.fs_nd fun f hf => by
    obtain ⟨a, ha, rfl⟩ := List.mem_iff_getElem.mp hf
    exact (k.cl a _ (List.getElem?_eq_getElem ha) _ .rf).1
theorem Kn.lt {ks fs : List Str} {lt : Str → Nat} (k : Kn ws ks fs lt) (all : ∀ p ∈ plcs ws, p ∈ ks) : Lt ws fs.length lt := by
  refine ⟨fun p hp => ?_, fun i hi => ?_, fun p hp q hq => ?_⟩
  · obtain ⟨_, f, hf, _⟩ := k.on p (all p hp)
    exact (List.getElem?_eq_some_iff.mp hf).1
  · have hf : fs[i]? = some fs[i] := List.getElem?_eq_getElem hi
    exact ⟨fs[i], k.pl _ (List.getElem_mem hi), (k.cl i _ hf _ .rf).2⟩
  · obtain ⟨_, f, hf, hm⟩ := k.on p (all p hp)
    obtain ⟨_, g, hg, hm2⟩ := k.on q (all q hq)
    constructor
    · intro e
      rw [← e, hf] at hg
      cases hg
      exact hm.sy.tr hm2
    · intro h
      exact ((k.cl _ f hf q (hm.tr h)).2).symm
theorem Kn.row {ks fs : List Str} {lt : Str → Nat} (k : Kn ws ks fs lt) (all : ∀ p ∈ plcs ws, p ∈ ks) {i : Nat} {f : Str} (hf : fs[i]? = some f) {rs : List Str} (mem : ∀ q, q ∈ rs ↔ Rch (nxts ws) f q) (j : Nat) : j ∈ rs.map lt ↔ lle ws lt i j := by
  have L := k.lt all
  have fp := k.pl f (List.mem_of_getElem? hf)
  have e : lt f = i := (k.cl i f hf f .rf).2
  rw [List.mem_map]
  constructor
  · rintro ⟨z, hz, rfl⟩
    have hz := (mem z).mp hz
    rw [← e, L.le fp (rch_plc fp hz)]
    exact hz
  · rintro ⟨p, q, hp, hq, h1, rfl, h2⟩
    refine ⟨q, (mem q).mpr ?_, rfl⟩
    have h3 := (L.eq p hp f fp).mp (by rw [h1, e])
    exact h3.2.trans h2
theorem fkv_congr {f g : Str → V} {ks : List Str} (h : ∀ z ∈ ks, f z = g z) : fkv f ks = fkv g ks := List.map_congr_left fun z hz => by rw [h z hz]
end
end My

/-! how many lots no way leaves -/
namespace My
open PySem PySem.Spec PyProof.Rows L2 Evl
theorem Hang.congr {ws us : List Str} (h : ∀ x, x ∈ ws ↔ x ∈ us) : Hang ws ↔ Hang us := by
  have one : ∀ {ws us : List Str}, (∀ x, x ∈ ws ↔ x ∈ us) → Hang ws → Hang us := fun {ws us} h hh p hp q hq => by
    have pl : ∀ {z : Str}, z ∈ plcs us → z ∈ plcs ws := fun {z} hz => by
      obtain ⟨x, hx, e⟩ := plcs_mem.mp hz
      exact plcs_mem.mpr ⟨x, (h x).mpr hx, e⟩
    exact rch_mono (fun x hx => (h x).mp hx) (hh p (pl hp) q (pl hq))
  exact ⟨one h, one fun x => (h x).symm⟩
/-- lots can be numbered -/
theorem ex_lot (ws : List Str) : ∃ m lot, Lt ws m lot := by
  refine ⟨(ded ((plcs ws).map (keyOf ws))).length, fun p => (ded ((plcs ws).map (keyOf ws))).idxOf (keyOf ws p), fun p hp => ?_, fun i hi => ?_, fun p hp q hq => ?_⟩
  · exact List.idxOf_lt_length_of_mem (ded_mem.mpr (List.mem_map.mpr ⟨p, hp, rfl⟩))
  · have hm := List.getElem_mem hi
    obtain ⟨p, hp, e⟩ := List.mem_map.mp (ded_mem.mp hm)
    refine ⟨p, hp, ?_⟩
    show List.idxOf (keyOf ws p) _ = i
    rw [e]
    exact (ded_nd _).idxOf_getElem i hi
  · constructor
    · intro e
      have kp : keyOf ws p ∈ ded ((plcs ws).map (keyOf ws)) := ded_mem.mpr (List.mem_map.mpr ⟨p, hp, rfl⟩)
      have kq : keyOf ws q ∈ ded ((plcs ws).map (keyOf ws)) := ded_mem.mpr (List.mem_map.mpr ⟨q, hq, rfl⟩)
      have e2 : keyOf ws p = keyOf ws q := by
        have h1 := List.getElem_idxOf (List.idxOf_lt_length_of_mem kp)
        have h2 := List.getElem_idxOf (List.idxOf_lt_length_of_mem kq)
        have e : List.idxOf (keyOf ws p) (ded ((plcs ws).map (keyOf ws))) = List.idxOf (keyOf ws q) (ded ((plcs ws).map (keyOf ws))) := e
        rw [← h1, ← h2]
        congr 1
      obtain ⟨a1, a2⟩ := key_mut hp
      obtain ⟨b1, b2⟩ := key_mut hq
      rw [e2] at a1 a2
      exact ⟨a1.trans b2, b1.trans a2⟩
    · rintro ⟨h1, h2⟩
      show List.idxOf (keyOf ws p) _ = List.idxOf (keyOf ws q) _
      rw [key_same hp h1 h2]
def Snk (ws : List Str) (p : Str) : Prop := ∀ q, Rch (nxts ws) p q → Rch (nxts ws) q p
noncomputable def snkB (ws : List Str) (p : Str) : Bool := @decide (Snk ws p) (Classical.propDecidable _)
theorem snkB_iff {ws : List Str} {p : Str} : snkB ws p = true ↔ Snk ws p := @decide_eq_true_iff _ (Classical.propDecidable _)
noncomputable def lastL (ws : List Str) : List Str := (places ws).filter (snkB ws)
noncomputable def keysL (ws : List Str) : List Str := ded ((lastL ws).map (keyOf ws))
noncomputable def endsL (ws : List Str) : Nat := if (lastL ws).length < (places ws).length ∨ 1 < (keysL ws).length then (keysL ws).length else 0
section
variable {ws : List Str} {m : Nat} {lot : Str → Nat}
theorem lastL_mem {p : Str} : p ∈ lastL ws ↔ p ∈ plcs ws ∧ Snk ws p := by
  unfold lastL
  rw [List.mem_filter, places_mem, snkB_iff]
theorem snk_top (L : Lt ws m lot) {p : Str} (hp : p ∈ plcs ws) : Snk ws p ↔ Mx m (lle ws lot) (lot p) := by
  constructor
  · intro h
    refine ⟨L.lt p hp, fun j hj => ?_⟩
    obtain ⟨a, b, ha, hb, e1, rfl, r⟩ := hj
    have h1 := (L.eq a ha p hp).mp e1
    have r2 := h1.2.trans r
    exact (L.eq b hb p hp).mpr ⟨h b r2, r2⟩
  · rintro ⟨_, h⟩ q hq
    have hqp := rch_plc hp hq
    have := h (lot q) ((L.le hp hqp).mpr hq)
    exact ((L.eq q hqp p hp).mp this).1
theorem key_plc {p : Str} (hp : p ∈ plcs ws) : keyOf ws p ∈ plcs ws := rch_plc hp (key_mut hp).1
theorem lot_key (L : Lt ws m lot) {p : Str} (hp : p ∈ plcs ws) : lot (keyOf ws p) = lot p := (L.eq _ (key_plc hp) p hp).mpr ⟨(key_mut hp).2, (key_mut hp).1⟩
theorem keysL_len (L : Lt ws m lot) : (keysL ws).length = (tops m (lle ws lot)).length := by
  have kin : ∀ k ∈ keysL ws, ∃ p, p ∈ plcs ws ∧ Snk ws p ∧ k = keyOf ws p := fun k hk => by
    obtain ⟨p, hp, e⟩ := List.mem_map.mp (ded_mem.mp hk)
    obtain ⟨h1, h2⟩ := lastL_mem.mp hp
    exact ⟨p, h1, h2, e.symm⟩
  refine Nat.le_antisymm ?_ ?_
  · have nd : ((keysL ws).map lot).Nodup := by
      refine List.pairwise_map.mpr ((ded_nd _).imp_of_mem fun {a b} ha hb hne e => hne ?_)
      obtain ⟨p, hp, _, rfl⟩ := kin a ha
      obtain ⟨q, hq, _, rfl⟩ := kin b hb
      rw [lot_key L hp, lot_key L hq] at e
      obtain ⟨h1, h2⟩ := (L.eq p hp q hq).mp e
      exact key_same hp h1 h2
    have := nodup_len nd (l := tops m (lle ws lot)) fun y hy => by
      obtain ⟨k, hk, rfl⟩ := List.mem_map.mp hy
      obtain ⟨p, hp, hs, rfl⟩ := kin k hk
      rw [lot_key L hp]
      exact tops_mem.mpr ((snk_top L hp).mp hs)
    rwa [List.length_map] at this
  · have := nodup_len (tops_nd m (lle ws lot)) (l := (keysL ws).map lot) fun i hi => by
      have hi := tops_mem.mp hi
      obtain ⟨p, hp, rfl⟩ := L.on i hi.1
      refine List.mem_map.mpr ⟨keyOf ws p, ded_mem.mpr (List.mem_map.mpr ⟨p, lastL_mem.mpr ⟨hp, (snk_top L hp).mpr hi⟩, rfl⟩), lot_key L hp⟩
    rwa [List.length_map] at this
theorem endsL_two (L : Lt ws m lot) (h2 : 2 ≤ m) : endsL ws = (tops m (lle ws lot)).length := by
  unfold endsL
  rw [← keysL_len L]
  by_cases hc : (lastL ws).length < (places ws).length ∨ 1 < (keysL ws).length
  · rw [if_pos hc]
  · exfalso
    have all : ∀ p ∈ places ws, snkB ws p = true := by
      have : (lastL ws).length = (places ws).length := Nat.le_antisymm (List.length_filter_le _ _) (by omega)
      exact List.length_filter_eq_length_iff.mp this
    have tl : (tops m (lle ws lot)).length ≤ 1 := by
      rw [← keysL_len L]
      omega
    have top : ∀ i, i < m → i ∈ tops m (lle ws lot) := fun i hi => by
      obtain ⟨p, hp, rfl⟩ := L.on i hi
      exact tops_mem.mpr ((snk_top L hp).mp (snkB_iff.mp (all p (places_mem.mpr hp))))
    have := nodup_len (ks := [0, 1]) (l := tops m (lle ws lot)) (by decide) fun i hi => by
      simp at hi
      rcases hi with rfl | rfl <;> exact top _ (by omega)
    have : [0, 1].length = 2 := rfl
    omega
theorem endsL_zero (h : Hang ws) : endsL ws = 0 := by
  obtain ⟨m, lot, L⟩ := ex_lot ws
  have hm := L.hang.mp h
  unfold endsL
  rw [if_neg]
  rintro (h1 | h1)
  · have : (lastL ws).length = (places ws).length := List.length_filter_eq_length_iff.mpr fun p hp => snkB_iff.mpr fun q hq => h q (rch_plc (places_mem.mp hp) hq) p (places_mem.mp hp)
    omega
  · rw [keysL_len L] at h1
    have := nodup_len (tops_nd m (lle ws lot)) (l := List.range m) fun i hi => List.mem_range.mpr (tops_mem.mp hi).1
    rw [List.length_range] at this
    omega
/-! ### read from behind -/
theorem Lt.rev (L : Lt ws m lot) : Lt (revs ws) m (fun p => lot (revS p)) := by
  have back : ∀ {p : Str}, p ∈ plcs (revs ws) ↔ revS p ∈ plcs ws := fun {p} => by
    have := plcs_revs (ws := ws) (p := revS p)
    rwa [rev_rev] at this
  have rr : ∀ {p q : Str}, Rch (nxts (revs ws)) p q ↔ Rch (nxts ws) (revS q) (revS p) := fun {p q} => by
    have := rch_revs (ws := ws) (a := revS p) (b := revS q)
    rwa [rev_rev, rev_rev] at this
  refine ⟨fun p hp => L.lt _ (back.mp hp), fun i hi => ?_, fun p hp q hq => ?_⟩
  · obtain ⟨p, hp, e⟩ := L.on i hi
    exact ⟨revS p, back.mpr (by rw [rev_rev]; exact hp), by show lot (revS (revS p)) = i; rw [rev_rev]; exact e⟩
  · rw [rr, rr]
    exact (L.eq _ (back.mp hp) _ (back.mp hq)).trans ⟨fun h => ⟨h.2, h.1⟩, fun h => ⟨h.2, h.1⟩⟩
theorem lle_rev : lle (revs ws) (fun p => lot (revS p)) = flip2 (lle ws lot) := by
  have back : ∀ {p : Str}, p ∈ plcs (revs ws) ↔ revS p ∈ plcs ws := fun {p} => by
    have := plcs_revs (ws := ws) (p := revS p)
    rwa [rev_rev] at this
  have rr : ∀ {p q : Str}, Rch (nxts (revs ws)) p q ↔ Rch (nxts ws) (revS q) (revS p) := fun {p q} => by
    have := rch_revs (ws := ws) (a := revS p) (b := revS q)
    rwa [rev_rev, rev_rev] at this
  funext i j
  refine propext ⟨?_, ?_⟩
  · rintro ⟨p, q, hp, hq, rfl, rfl, r⟩
    exact ⟨revS q, revS p, back.mp hq, back.mp hp, rfl, rfl, rr.mp r⟩
  · rintro ⟨p, q, hp, hq, rfl, rfl, r⟩
    exact ⟨revS q, revS p, back.mpr (by rw [rev_rev]; exact hq), back.mpr (by rw [rev_rev]; exact hp), by show lot (revS (revS q)) = _; rw [rev_rev], by show lot (revS (revS p)) = _; rw [rev_rev], rr.mpr (by rw [rev_rev, rev_rev]; exact r)⟩
theorem endsL_rev (L : Lt ws m lot) (h2 : 2 ≤ m) : endsL (revs ws) = (tops m (flip2 (lle ws lot))).length := by
  rw [endsL_two L.rev h2, lle_rev]
theorem hang_rev (h : Hang ws) : Hang (revs ws) := by
  obtain ⟨m, lot, L⟩ := ex_lot ws
  exact L.rev.hang.mpr (L.hang.mp h)
end
/-! ### what the law tells of a wide book -/
theorem wide_zero {ws : List Str} (h : Hang ws) : endsL ws = 0 ∧ endsL (revs ws) = 0 ∧ fewN ws = some 0 := ⟨endsL_zero h, endsL_zero (hang_rev h), by
  unfold fewN
  rw [if_pos h]⟩
theorem wide_many {ws : List Str} {n : Nat} (W : Wl ws n (letsOf ws)) (h : 2 < endsL ws ∨ 2 < endsL (revs ws)) : fewN ws = none := by
  obtain ⟨m, lot, L⟩ := ex_lot ws
  have h2 : 2 ≤ m := by
    by_cases hm : 2 ≤ m
    · exact hm
    · obtain ⟨a, b, _⟩ := wide_zero (L.hang.mpr (by omega))
      omega
  rw [endsL_two L h2, endsL_rev L h2] at h
  exact (told_few W L h2 (r := none) ⟨fun _ => rfl, fun a b _ => by omega, fun no => absurd h no⟩).symm
theorem wide_two {ws : List Str} (W : Wl ws 2 (letsOf ws)) (nh : ¬ Hang ws) (h : ¬ (2 < endsL ws ∨ 2 < endsL (revs ws))) : fewN ws = some (max (endsL ws) (endsL (revs ws))) := by
  obtain ⟨m, lot, L⟩ := ex_lot ws
  have h2 : 2 ≤ m := by
    by_cases hm : 2 ≤ m
    · exact hm
    · exact absurd (L.hang.mpr (by omega)) nh
  rw [endsL_two L h2, endsL_rev L h2] at h ⊢
  exact few_two W L h2 rfl (by omega) (by omega)
theorem wide_pos {ws : List Str} (nh : ¬ Hang ws) (ne : ws ≠ []) : 1 ≤ endsL ws ∧ 1 ≤ endsL (revs ws) := by
  obtain ⟨m, lot, L⟩ := ex_lot ws
  have h2 : 2 ≤ m := by
    by_cases hm : 2 ≤ m
    · exact hm
    · exact absurd (L.hang.mpr (by omega)) nh
  rw [endsL_two L h2, endsL_rev L h2]
  exact ⟨tops_pos L.po (by omega), tops_pos L.po.flip (by omega)⟩
/-- where one window does it, it begins at the only end -/
theorem one_last {ws : List Str} {n : Nat} (W : Wl ws n (letsOf ws)) (nh : ¬ Hang ws) (h : One ws) : max (endsL ws) (endsL (revs ws)) = 1 ∧ ∃ x, Fur ws (lastL ws) (letsOf ws) x ∧ Hang (ws ++ [x]) := by
  obtain ⟨m, lot, L⟩ := ex_lot ws
  have h2 : 2 ≤ m := by
    by_cases hm : 2 ≤ m
    · exact hm
    · exact absurd (L.hang.mpr (by omega)) nh
  obtain ⟨e, s, u1, u2, a⟩ := (single W L h2).mp h
  have h0 : 0 < m := by omega
  refine ⟨?_, ?_⟩
  · rw [endsL_two L h2, endsL_rev L h2, (uniq_iff L.po h0).mp u1, (uniq_iff L.po.flip h0).mp u2]
    rfl
  · obtain ⟨x, ⟨p, hp, c, hc, ex, xn⟩, hb, he, h1, h3⟩ := arc_win W a
    refine ⟨x, ⟨p, ?_, c, hc, ex, xn⟩, (join1 L hb he).mpr ?_⟩
    · have bp : begS x = p := by rw [ex, beg_put]
      rw [bp] at h1
      refine lastL_mem.mpr ⟨hp, (snk_top L hp).mpr ?_⟩
      rw [h1]
      exact tops_mem.mp (by rw [(uniq_iff L.po h0).mp u1]; exact List.mem_singleton.mpr rfl)
    · rw [h1, h3]
      exact sg_one L.po u1 u2
theorem last_one {ws : List Str} {x : Str} (h : Fur ws (lastL ws) (letsOf ws) x) (hh : Hang (ws ++ [x])) : One ws := by
  obtain ⟨p, hp, c, hc, ex, xn⟩ := h
  exact ⟨x, ⟨p, (lastL_mem.mp hp).1, c, hc, ex, xn⟩, hh⟩
/-! ### none of what joins may go -/
theorem second_one {ws : List Str} {x y : Str} (h1 : Fur ws (plcs ws) (letsOf ws) x) (h2 : Fur (ws ++ [x]) (plcs ws ++ [endS x]) (letsOf ws) y) (ne : ws ≠ []) (hh : Hang (ws ++ [y])) : One ws := by
  obtain ⟨p, hp, c, hc, ey, yn⟩ := h2
  have yw : y ∉ ws := fun h => yn (List.mem_append_left _ h)
  have by_ : begS y = p := by rw [ey, beg_put]
  by_cases hpp : p ∈ plcs ws
  · exact ⟨y, ⟨p, hpp, c, hc, ey, yw⟩, hh⟩
  · exfalso
    obtain ⟨x0, hx0⟩ := List.exists_mem_of_ne_nil _ ne
    have r := hh (begS x0) (beg_mem (List.mem_append_left _ hx0)) (begS y) (beg_mem (List.mem_append_right _ (List.mem_singleton.mpr rfl)))
    have gen : ∀ {z : Str}, Rch (nxts (ws ++ [y])) (begS x0) z → z ∈ plcs ws := fun {z} r => by
      induction r with
      | refl => exact beg_mem hx0
      | step _ h2 ih =>
        obtain ⟨w, hw, e1, e2⟩ := nxts_mem.mp h2
        rcases List.mem_append.mp hw with hw | hw
        · exact e2 ▸ end_mem hw
        · rw [List.mem_singleton.mp hw, by_] at e1
          exact absurd (e1 ▸ ih) hpp
    exact hpp (by_ ▸ gen r)
end My

/-! what the law tries -/
namespace My
open PySem PySem.Spec PyProof.Rows L2 Evl
def furL (V S lts : List Str) : List Str := S.flatMap fun p => (lts.map fun l => p ++ l).filter fun x => !decide (x ∈ V)
def LtsOf (ws lts : List Str) : Prop := ∀ l, l ∈ lts ↔ ∃ c ∈ letsOf ws, l = one1 c
def letL (ws : List Str) : List Str := sortS (ded ((letsOf ws).map one1))
theorem letL_of (ws : List Str) : LtsOf ws (letL ws) := fun l => by
  unfold letL
  rw [sortS_mem, ded_mem, List.mem_map]
  exact ⟨fun ⟨c, hc, e⟩ => ⟨c, hc, e.symm⟩, fun ⟨c, hc, e⟩ => ⟨c, hc, e.symm⟩⟩
theorem furL_mem {V S lts ws : List Str} {x : Str} (h : LtsOf ws lts) : x ∈ furL V S lts ↔ Fur V S (letsOf ws) x := by
  unfold furL Fur
  simp only [List.mem_flatMap, List.mem_filter, List.mem_map]
  constructor
  · rintro ⟨p, hp, ⟨l, hl, rfl⟩, hn⟩
    obtain ⟨c, hc, rfl⟩ := (h l).mp hl
    exact ⟨p, hp, c, hc, rfl, by simpa using hn⟩
  · rintro ⟨p, hp, c, hc, rfl, hn⟩
    exact ⟨p, hp, ⟨one1 c, (h _).mpr ⟨c, hc, rfl⟩, rfl⟩, by simpa using hn⟩
theorem furL_snoc (V S lts : List Str) (p : Str) : furL V (S ++ [p]) lts = furL V S lts ++ (lts.map fun l => p ++ l).filter fun x => !decide (x ∈ V) := by
  unfold furL
  rw [List.flatMap_append]
  simp
theorem furL_len (V S lts : List Str) : (furL V S lts).length ≤ S.length * lts.length := by
  unfold furL
  induction S with
  | nil => exact Nat.zero_le _
  | cons p S ih =>
    rw [List.flatMap_cons, List.length_append]
    have h1 := List.length_filter_le (fun x => !decide (x ∈ V)) (lts.map fun l => p ++ l)
    rw [List.length_map] at h1
    rw [List.length_cons, Nat.add_mul, Nat.one_mul]
    omega
theorem join_letters (ws : List Str) : sg (Txt.join ("" : Str) ws) = letsOf ws := by
  have e : ws = (ws.map sg).map tx := by
    rw [List.map_map]
    exact (List.map_id'' (f := tx ∘ sg) (fun x => tx_sg x) ws).symm
  conv => lhs; rw [e]
  rw [join_tx, sg_tx]
  unfold letsOf
  rw [List.flatMap_def]
section
variable {ws : List Str} {n : Nat} {x y : Str}
theorem let_word (B : Bk n ws) {c : Nat} (h : c ∈ letsOf ws) : 97 ≤ c ∧ c ≤ 122 := by
  obtain ⟨x, hx, hc⟩ := letsOf_mem.mp h
  exact (B.win.1 x hx).1 c hc
theorem plc_word (B : Bk n ws) {p : Str} (h : p ∈ plcs ws) : Word p ∧ p.length + 1 = n := by
  obtain ⟨h1, h2⟩ := plcs_word B.win.1 h
  have := B.lo
  exact ⟨h1, by omega⟩
theorem fur_word {V S : List Str} (B : Bk n ws) (hS : ∀ p ∈ S, Word p ∧ p.length + 1 = n) (h : Fur V S (letsOf ws) x) : Word x ∧ x.length = n := by
  obtain ⟨p, hp, c, hc, rfl, _⟩ := h
  obtain ⟨h1, h2⟩ := hS p hp
  refine ⟨fun a ha => ?_, ?_⟩
  · rw [sg_app] at ha
    rcases List.mem_append.mp ha with ha | ha
    · exact h1 a ha
    · rw [List.mem_singleton.mp ha]
      exact let_word B hc
  · rw [strLen_app]
    exact h2
theorem fur_first (B : Bk n ws) (h : Fur ws (plcs ws) (letsOf ws) x) : Word x ∧ x.length = n := fur_word B (fun p hp => plc_word B hp) h
theorem snd_plc (B : Bk n ws) (h : Fur ws (plcs ws) (letsOf ws) x) : ∀ p ∈ plcs ws ++ [endS x], Word p ∧ p.length + 1 = n := fun p hp => by
  obtain ⟨h1, h2⟩ := fur_first B h
  rcases List.mem_append.mp hp with hp | hp
  · exact plc_word B hp
  · rw [List.mem_singleton.mp hp]
    refine ⟨word_end h1, ?_⟩
    rw [len_end]
    have := B.lo
    omega
theorem fur_second (B : Bk n ws) (h : Fur ws (plcs ws) (letsOf ws) x) (h2 : Fur (ws ++ [x]) (plcs ws ++ [endS x]) (letsOf ws) y) : Word y ∧ y.length = n := fur_word B (snd_plc B h) h2
theorem fur_new {V S : List Str} {ls : List Nat} (h : Fur V S ls x) : x ∉ V := by
  obtain ⟨_, _, _, _, _, h⟩ := h
  exact h
end
/-- what the law finds -/
inductive JoinR (ws : List Str) : Option (List Str) → Prop
  | none : ¬ Hang ws → ¬ One ws → ¬ Two2 ws → JoinR ws none
  | zero : Hang ws → JoinR ws (some [])
  | one {x : Str} : ¬ Hang ws → Fur ws (plcs ws) (letsOf ws) x → Hang (ws ++ [x]) → JoinR ws (some [x])
  | two {x y : Str} : ¬ Hang ws → ¬ One ws → Fur ws (plcs ws) (letsOf ws) x → Fur (ws ++ [x]) (plcs ws ++ [endS x]) (letsOf ws) y → Hang (ws ++ [x, y]) → JoinR ws (some (sortS [x, y]))
theorem JoinR.few {ws : List Str} {o : Option (List Str)} (h : JoinR ws o) : fewN ws = o.map (·.length) := by
  unfold fewN
  cases h with
  | none a b c => rw [if_neg a, if_neg b, if_neg c]; rfl
  | zero a => rw [if_pos a]; rfl
  | one a b c => rw [if_neg a, if_pos ⟨_, b, c⟩]; rfl
  | two a b c d e =>
    rw [if_neg a, if_neg b, if_pos ⟨_, _, c, d, e⟩]
    show _ = some (sortS _).length
    rw [sortS_len]
    rfl
def optD : Option (List Str) → PyData
  | none => .none
  | some l => strsT l
/-- whole behind the joining, and none of them may go -/
theorem JoinR.whole {ws l : List Str} {n : Nat} (B : Bk n ws) (h : JoinR ws (some l)) : Win n l ∧ (∀ x ∈ l, x ∉ ws) ∧ l.length ≤ 2 ∧ Hang (sortS (ws ++ l)) ∧ ∀ x ∈ l, ¬ Sc (minus (sortS (ws ++ l)) [x]) := by
  have nocase : ∀ {us vs : List Str}, (∀ z, z ∈ us ↔ z ∈ vs) → ¬ Hang vs → ¬ Sc us := fun {us vs} e h s => h ((Hang.congr e).mp s.2)
  cases h with
  | zero hh => exact ⟨⟨fun x h => (List.not_mem_nil h).elim, List.Pairwise.nil⟩, fun x h => (List.not_mem_nil h).elim, Nat.zero_le _, (Hang.congr fun z => by rw [sortS_mem, List.append_nil]).mpr hh, fun x h => (List.not_mem_nil h).elim⟩
  | @one x nh f hh =>
    have xn := fur_new f
    refine ⟨⟨fun z hz => ?_, List.pairwise_singleton ..⟩, fun z hz => ?_, by show 1 ≤ 2; omega, (Hang.congr fun z => sortS_mem).mpr hh, fun z hz => ?_⟩
    · rw [List.mem_singleton.mp hz]
      exact fur_first B f
    · rw [List.mem_singleton.mp hz]
      exact xn
    · rw [List.mem_singleton.mp hz]
      refine nocase (fun y => ?_) nh
      rw [minus_mem, sortS_mem, List.mem_append, List.mem_singleton]
      constructor
      · rintro ⟨h1 | h1, h2⟩
        · exact h1
        · exact absurd h1 h2
      · intro h
        exact ⟨.inl h, fun e => xn (e ▸ h)⟩
  | @two x y nh no f g hh =>
    have xn := fur_new f
    have yn : y ∉ ws := fun h => fur_new g (List.mem_append_left _ h)
    have yx : y ≠ x := fun h => fur_new g (List.mem_append_right _ (List.mem_singleton.mpr h))
    have nd : [x, y].Nodup := List.nodup_cons.mpr ⟨fun h => yx (List.mem_singleton.mp h).symm, nodup_one y⟩
    have two : ∀ {z : Str}, z ∈ sortS [x, y] ↔ z = x ∨ z = y := fun {z} => by
      rw [sortS_mem]
      simp
    refine ⟨⟨fun z hz => ?_, sortS_asc nd⟩, fun z hz => ?_, by rw [sortS_len]; show 2 ≤ 2; omega, (Hang.congr fun z => ?_).mpr hh, fun z hz => ?_⟩
    · rcases two.mp hz with rfl | rfl
      · exact fur_first B f
      · exact fur_second B f g
    · rcases two.mp hz with rfl | rfl
      · exact xn
      · exact yn
    · rw [sortS_mem, List.mem_append, List.mem_append, two]
      simp
    · rcases two.mp hz with rfl | rfl
      · refine nocase (vs := ws ++ [y]) (fun u => ?_) fun h => no (second_one f g B.ne h)
        rw [minus_mem, sortS_mem, List.mem_append, List.mem_append, two, List.mem_singleton, List.mem_singleton]
        constructor
        · rintro ⟨h1 | h1 | h1, h2⟩
          · exact .inl h1
          · exact absurd h1 h2
          · exact .inr h1
        · rintro (h | h)
          · exact ⟨.inl h, fun e => xn (e ▸ h)⟩
          · exact ⟨.inr (.inr h), fun e => yx (h.symm.trans e)⟩
      · refine nocase (vs := ws ++ [x]) (fun u => ?_) fun h => no ⟨x, f, h⟩
        rw [minus_mem, sortS_mem, List.mem_append, List.mem_append, two, List.mem_singleton, List.mem_singleton]
        constructor
        · rintro ⟨h1 | h1 | h1, h2⟩
          · exact .inl h1
          · exact .inr h1
          · exact absurd h1 h2
        · rintro (h | h)
          · exact ⟨.inl h, fun e => yn (e ▸ h)⟩
          · exact ⟨.inr (.inl h), fun e => yx (e.symm.trans h)⟩
end My

/-! min of a dict of texts -/
namespace My
open PySem PySem.Spec PyProof.Rows L2 Evl
theorem strs_ltC {prog : Program} {w : World} {A : Around} {P : Nat → Value → Prop} (val : Nat → Str) (hval : ∀ i v, P i v → ∃ t, v = .str (val i) t) :
    CmpOf prog w A .Lt P (fun i j => decide (sg (val i) < sg (val j))) := fun i j vi vj s Q E hi hj h => by
  obtain ⟨t, rfl⟩ := hval i vi hi
  obtain ⟨u, rfl⟩ := hval j vj hj
  exact richCompare_gives (op := .Lt) (typeIs_str s _ t) (typeIs_str s _ u) F.slot_str_lt F.entry_str_lt (F.args_str_lt_2 _ _) (gives_str_lt _ _ t u) (fun x => nomatch x) h
theorem argBest_strs (val : Nat → Str) : ∀ k, argBest (fun i j => decide (sg (val i) < sg (val j))) k ≤ k ∧ ∀ j, j ≤ k → ¬ sg (val j) < sg (val (argBest (fun i j => decide (sg (val i) < sg (val j))) k))
  | 0 => ⟨Nat.le_refl _, fun j hj => by
    have : j = 0 := by omega
    subst this
    exact List.lt_irrefl _⟩
  | k + 1 => by
    obtain ⟨h1, h2⟩ := argBest_strs val k
    simp only [argBest]
    by_cases hc : sg (val (k + 1)) < sg (val (argBest (fun i j => decide (sg (val i) < sg (val j))) k))
    · rw [if_pos (by simpa using hc)]
      refine ⟨Nat.le_refl _, fun j hj => ?_⟩
      rcases Nat.lt_or_ge j (k + 1) with hlt | hge
      · exact fun z => h2 j (by omega) (List.lt_trans z hc)
      · have : j = k + 1 := by omega
        subst this
        exact List.lt_irrefl _
    · rw [if_neg (by simpa using hc)]
      refine ⟨by omega, fun j hj => ?_⟩
      rcases Nat.lt_or_ge j (k + 1) with hlt | hge
      · exact h2 j (by omega)
      · have : j = k + 1 := by omega
        subst this
        exact hc
section
variable {X : Cx}
def rMinDS : List V → Hp → VK → Prop := fun vs H Q => ∃ (a : Addr) (kvs : List (Key × V)) (is : List Str), vs = [V.ref a] ∧ H a = some (.dK kvs) ∧ kvs.map (·.1) = is.map Sum.inr ∧ is ≠ [] ∧ ∀ m, m ∈ is → (∀ j ∈ is, ¬ sg j < sg m) → Q (.str m) H
theorem cr_minDS (hc : X.calm = true) : CallR X (.builtin "min") rMinDS := by
  intro pins s σ H vs us Q I r h
  obtain ⟨a, kvs, is, rfl, ha, hv, hne, q⟩ := h
  rw [Vals.ref1 r]
  obtain ⟨_, hsys, vs, rel, dof⟩ := dk_of I.hok ha
  obtain ⟨ep, dat⟩ := dof.dictAt
  obtain ⟨ob, es, ho, hex, hdat, hko, hpr, hnd⟩ := id dat
  have hlt : a < s.heap.objs.size := Heap.lt_size ho
  have hkeys : vs.map (·.1) = is.map Sum.inr := (KV.keys rel).symm.trans hv
  have hlv : vs.length = is.length := by
    have e1 := congrArg List.length hkeys
    rw [List.length_map, List.length_map] at e1
    exact e1
  have hlen : 0 < vs.length := by
    rw [hlv]
    exact List.length_pos_iff.mpr hne
  have hval : ∀ (i : Nat) (v : Value), (∃ k x, vs[i]? = some (k, x) ∧ (mixKind X.prog X.w).is k v = true) → ∃ t, v = Value.str (is.getD i (tx [])) t := fun i v ⟨k, x, hk, hkey⟩ => by
    have e1 : (vs.map (·.1))[i]? = some k := by rw [List.getElem?_map, hk] <;> rfl
    rw [hkeys, List.getElem?_map] at e1
    obtain ⟨j, hj, e2⟩ := Option.map_eq_some_iff.mp e1
    subst e2
    obtain ⟨t, e3⟩ := Value.isStrOf_shape (x := j) (v := v) hkey
    refine ⟨t, ?_⟩
    rw [e3, List.getD_eq_getElem?_getD, hj] <;> rfl
  refine call_min_walk (wpAny_pyIter_dict (knd := mixKind X.prog X.w) hsys dat ?_)
  refine ⟨_, _, _, _, _, _, _, rfl, Walks.dictKeys (knd := mixKind X.prog X.w) (A := X.A.in1) (I.ok.hd hc) s.heap.objs.size a (Nat.ne_of_lt hlt) vs ep,
    ⟨⟨_, Heap.get?_push_size _ rfl, rfl, rfl⟩, dat.keep fun b u e => Heap.get?_push_of_some _ e⟩, fun b hb => ?_, hlen, strs_ltC (fun i => is.getD i (tx [])) hval, fun v h' tk hP hk => ?_⟩
  · show b < (s.heap.push _).objs.size
    rw [Heap.size_push]
    rcases List.mem_cons.mp hb with e | hb
    · rw [e]
      exact Nat.lt_succ_self _
    · rw [List.mem_singleton.mp hb]
      exact Nat.lt_succ_of_lt hlt
  · obtain ⟨t, rfl⟩ := hval _ v hP
    obtain ⟨b1, b2⟩ := argBest_strs (fun i => is.getD i (tx [])) (vs.length - 1)
    refine ⟨.str _, H, I.kept (t' := tk) fun b u e => hk b u (fun hmem => ?_) (Heap.get?_push_of_some _ e), ⟨t, rfl⟩, q _ ?_ fun j hj => ?_⟩
    · have e1 : b = s.heap.objs.size := List.mem_singleton.mp hmem
      have e2 := Heap.lt_size e
      rw [e1] at e2
      exact absurd e2 (Nat.lt_irrefl _)
    · have hb : argBest (fun i j => decide (sg (is.getD i (tx [])) < sg (is.getD j (tx [])))) (vs.length - 1) < is.length := by omega
      rw [List.getD_eq_getElem?_getD, List.getElem?_eq_getElem hb]
      exact List.getElem_mem hb
    · obtain ⟨i, hi, e⟩ := List.mem_iff_getElem.mp hj
      have e2 : is.getD i (tx []) = j := by rw [List.getD_eq_getElem?_getD, List.getElem?_eq_getElem hi, ← e] <;> rfl
      rw [← e2]
      exact b2 i (by omega)
end
end My

/-! sets of texts: made of a list, their number, sorted -/
namespace My
open PySem PySem.Spec PyProof.Rows L2 Evl
def txtOf (e : Int × Value) : Str := match e.2 with | .str x _ => x | _ => tx []
def TxtE (P : Program) (w : World) (e : Int × Value) : Prop := ∃ x tk, e.2 = Value.str x tk ∧ e.1 = (strKind P w).hash x
/-- the set at a has the texts ks -/
def SetX (P : Program) (w : World) (h : Heap) (a : Addr) (ks : List Str) : Prop :=
  ∃ o es ep t, h.get? a = some o ∧ o.ExactSet ∧ o.data = .set es ep t ∧ (∀ e ∈ es.toList, TxtE P w e) ∧ (es.toList.map txtOf).Perm ks ∧ ks.Nodup ∧ es.size < scanBound ∧ t.fits es.size = true ∧ Ris t.place.toList ∧
    (w.params.followText "set-order" = true ∨ t.led = true)
section
variable {P : Program} {w : World} {h h' : Heap} {a : Addr} {ks : List Str}
theorem SetX.at (R : SetX P w h a ks) (k : ∀ o, h.get? a = some o → h'.get? a = some o) : SetX P w h' a ks := by
  obtain ⟨o, es, ep, t, ho, r⟩ := R
  exact ⟨o, es, ep, t, k o ho, r⟩
theorem txts_el {l : List (Int × Value)} (g : ∀ e ∈ l, TxtE P w e) : ElemsOf (strKind P w) l := fun e he => by
  obtain ⟨x, tk, h1, h2⟩ := g e he
  exact ⟨⟨x, by rw [h1]; exact strKind_is P w x tk, h2⟩, by rw [h1] <;> rfl⟩
theorem txt_is {e : Int × Value} (g : TxtE P w e) (x : Str) : (strKind P w).is x e.2 = true ↔ txtOf e = x := by
  obtain ⟨y, tk, h1, _⟩ := g
  have e1 := KeyKind.is_eq_decide (knd := strKind P w) (k := y) (v := e.2) (by rw [h1]; exact strKind_is P w y tk) x
  rw [e1, decide_eq_true_iff]
  unfold txtOf
  rw [h1]
  exact ⟨fun z => z.symm, fun z => z.symm⟩
theorem txt_mem {l : List (Int × Value)} (g : ∀ e ∈ l, TxtE P w e) (x : Str) : x ∈ l.map txtOf ↔ ∃ e ∈ l, (strKind P w).is x e.2 = true := by
  rw [List.mem_map]
  exact ⟨fun ⟨e, he, q⟩ => ⟨e, he, (txt_is (g e he) x).2 q⟩, fun ⟨e, he, q⟩ => ⟨e, he, (txt_is (g e he) x).1 q⟩⟩
end
section
variable {P : Program} {w : World} {A : Around} {E : Value → Shared → Prop} {s : Shared} {a : Addr} {ks : List Str}
theorem setX_tail {gv : Bool → Sem Unit} (hg : ∀ (b : Bool) (s1 : Shared) (Q' : Unit → Shared → Prop), Q' () s1 → wpAny (model P w) A (gv b) Q' E s1)
    {o : Obj} {es : Array (Int × Value)} {ep : Nat} {t : SetTable} (ho : s.heap.get? a = some o) (hex : o.ExactSet) (hd : o.data = .set es ep t)
    {fs : Array (Int × Value)} {t2 : SetTable} {ms : List Str} (g1 : ∀ e ∈ fs.toList, TxtE P w e) (p1 : (fs.toList.map txtOf).Perm ms) (nd1 : ms.Nodup)
    (hb1 : fs.size < scanBound) (hf2 : t2.fits fs.size = true) (hr : Ris t2.place.toList) (hl : w.params.followText "set-order" = true ∨ t2.led = true) {dm : Bool} {R : Option Bool → Shared → Prop}
    (hR : ∀ h', Heap.SameBut a s.heap h' → SetX P w h' a ms → R (some true) { s with heap := h' }) :
    wpAny (model P w) A (do
        storeSet a fs t2
        if (!dm && t2.tooFull) = true then do
            gv (relayAll t2 fs (SetTable.grown fs.size)).2.2
            storeSet a (relayAll t2 fs (SetTable.grown fs.size)).1 (relayAll t2 fs (SetTable.grown fs.size)).2.1
            pure (some true)
          else pure (some true)) R E s := by
  refine wpAny_bind (wpAny_storeSet_of ho hd ?_ (fits_of_scanBound hb1))
  have ho1 := store_at (es' := fs) (t' := t2) ho hd
  have sb1 := Heap.SameBut.update s.heap a (Obj.putSet fs t2)
  split
  · have pm := relayAll_perm t2 fs (SetTable.grown fs.size)
    have hf3 := relayAll_fits t2 fs (SetTable.grown fs.size)
    have hr3 := relayAll_ris t2 fs (SetTable.grown fs.size)
    have hl3 := relayAll_led t2 fs (SetTable.grown fs.size)
    generalize relayAll t2 fs (SetTable.grown fs.size) = Z at pm hf3 hr3 hl3 ⊢
    obtain ⟨es2, t3, gave⟩ := Z
    dsimp only at pm hf3 hr3 hl3 ⊢
    have hb2 : es2.size < scanBound := by
      have hsz : es2.size = fs.size := by rw [← Array.length_toList, pm.length_eq, Array.length_toList]
      omega
    refine wpAny_bind (hg _ _ _ ?_)
    refine wpAny_bind (wpAny_storeSet_of ho1 rfl ?_ (fits_of_scanBound hb2))
    have ho2 := store_at (es' := es2) (t' := t3) ho1 rfl
    refine wpAny_pure (hR _ (sb1.trans (Heap.SameBut.update _ a _)) ?_)
    exact ⟨_, es2, _, t3, ho2, hex, rfl, fun e he => g1 e (pm.mem_iff.mp he), (pm.map txtOf).trans p1, nd1, hb2, hf3, hr3, hl.imp id fun z => by rw [hl3]; exact z⟩
  · exact wpAny_pure (hR _ sb1 ⟨_, fs, _, t2, ho1, hex, rfl, g1, p1, nd1, hb1, hf2, hr, hl⟩)
theorem setX_add {x : Str} {tk : Tok} {Q : Bool → Shared → Prop} (R : SetX P w s.heap a ks) (room : ks.length + 1 < scanBound)
    (hQ : ∀ b h', Heap.SameBut a s.heap h' → SetX P w h' a (addS ks x) → Q b { s with heap := h' }) :
    wpAny (model P w) A (setAddHashed a (.str x tk) ((strKind P w).hash x)) Q E s := by
  obtain ⟨o, es, ep, t, ho, hex, hd, g, pk, nd, hb, hf, hr, hl⟩ := R
  have hkey : (strKind P w).is x (.str x tk) = true := strKind_is P w x tk
  have hsc : (Value.str x tk).scannable = true := rfl
  have hel : ElemsOf (strKind P w) es.toList := txts_el g
  unfold setAddHashed setAddHashedIn
  refine wpAny_holding (wpAny_bind (wpAny_setState_of ho hd hf ?_))
  dsimp only
  rw [byScan_of hsc hb hel]
  simp only [↓reduceIte]
  unfold setAddByScan
  refine wpAny_bind ?_
  refine wpAny_bind (wpAny_rule ?_)
  refine wpAny_bind (wpAny_setScan_of hkey ho hd hf hel ?_)
  cases hfi : List.findIdx? (fun e => (strKind P w).is x e.2) es.toList with
  | some j =>
    dsimp only
    obtain ⟨hj, pj, _⟩ := List.findIdx?_eq_some_iff_getElem.mp hfi
    have hin : x ∈ ks := pk.mem_iff.mp ((txt_mem g x).2 ⟨es.toList[j], List.getElem_mem hj, pj⟩)
    have e0 : addS ks x = ks := by rw [addS, if_pos hin]
    rw [e0] at hQ
    exact wpAny_pure (wpAny_pure (hQ _ s.heap (Heap.SameBut.refl a s.heap) ⟨o, es, ep, t, ho, hex, hd, g, pk, nd, hb, hf, hr, hl⟩))
  | none =>
    dsimp only
    have hout : x ∉ ks := fun z => by
      obtain ⟨e, he, q⟩ := (txt_mem g x).1 (pk.mem_iff.mpr z)
      have c := List.findIdx?_eq_none_iff.mp hfi e he
      rw [q] at c
      cases c
    have e0 : addS ks x = ks ++ [x] := by rw [addS, if_neg hout]
    rw [e0] at hQ
    have hgw : ∀ (b : Bool) {s1 : Shared} {Q' : Unit → Shared → Prop}, Q' () s1 → wpAny (model P w) A (match b with | true => rule "set.scan.the-table-gave-way" | false => pure ()) Q' E s1 :=
      fun b s1 Q' q => by cases b <;> first | exact wpAny_pure q | exact wpAny_rule q
    have pm := layNew_perm t es ((strKind P w).hash x) (.str x tk)
    have hf1 := layNew_fits t es ((strKind P w).hash x) (.str x tk)
    have hr1 := layNew_ris t es ((strKind P w).hash x) (.str x tk) hr
    have hl1 := layNew_led t es ((strKind P w).hash x) (.str x tk)
    generalize layNew t es ((strKind P w).hash x) (.str x tk) = Z at pm hf1 hr1 hl1 ⊢
    obtain ⟨fs, t1, dm, gave⟩ := Z
    dsimp only at pm hf1 hr1 hl1 ⊢
    rw [Array.toList_push] at pm
    have g1 : ∀ e ∈ fs.toList, TxtE P w e := fun e he => by
      rcases List.mem_append.mp (pm.mem_iff.mp he) with z | z
      · exact g e z
      · rw [List.mem_singleton.mp z]
        exact ⟨x, tk, rfl, rfl⟩
    have p1 : (fs.toList.map txtOf).Perm (ks ++ [x]) := by
      have q := pm.map txtOf
      rw [List.map_append] at q
      exact q.trans (List.Perm.append_right _ pk)
    have nd1 : (ks ++ [x]).Nodup := List.nodup_append.mpr ⟨nd, nodup_one x, fun u hu v hv e => hout (by rw [List.mem_singleton.mp hv] at e; exact e ▸ hu)⟩
    have hb1 : fs.size < scanBound := by
      have q := p1.length_eq
      rw [List.length_map, Array.length_toList, List.length_append] at q
      have : [x].length = 1 := rfl
      omega
    have hled : w.params.followText "set-order" = true ∨ t1.led = true := hl.imp id fun z => by rw [hl1]; exact z
    refine wpAny_bind (hgw _ ?_)
    split
    · refine wpAny_bind ?_
      rw [hashByValue_scannable 8 hsc]
      refine wpAny_pure ?_
      refine setX_tail ?_ ho hex hd g1 p1 nd1 hb1 ?_ ?_ ?_ ?_
      · intro b s1 Q' q; cases b <;> first | exact wpAny_pure q | exact wpAny_rule q
      · first | (split <;> first | exact hf1 | exact SetTable.fits_plain_off hf1) | exact hf1
      · first | (split <;> exact hr1) | exact hr1
      · first | (split <;> exact hled) | exact hled
      · intro h' sb r
        dsimp only
        exact wpAny_pure (hQ _ h' sb r)
    · refine wpAny_bind (wpAny_pure ?_)
      simp only [↓reduceIte]
      refine setX_tail ?_ ho hex hd g1 p1 nd1 hb1 hf1 hr1 hled ?_
      · intro b s1 Q' q; cases b <;> first | exact wpAny_pure q | exact wpAny_rule q
      · intro h' sb r
        dsimp only
        exact wpAny_pure (hQ _ h' sb r)
theorem setX_new {P : Program} {w : World} {h : Heap} {a : Addr} (ho : h.get? a = some { cls := .type "set", dict := none, data := .set #[] 0 (.fresh 0 0 (!w.params.followText "set-order")) }) : SetX P w h a [] :=
  ⟨_, #[], 0, _, ho, ⟨rfl, rfl, rfl⟩, rfl, (fun e he => by simp at he), (by simp), List.nodup_nil, (by decide), (by rfl), List.Pairwise.nil, by
    show _ ∨ (!w.params.followText "set-order") = true
    cases w.params.followText "set-order"
    · exact .inr rfl
    · exact .inl rfl⟩
theorem setX_loop {I : Addr} {fp wr : List Addr} {G : Array GenState → Array GenState → Prop} {n : Nat} {Pv : Nat → Value → Prop} {St : Nat → Shared → Prop} {R : Result → Shared → Prop}
    (W : WalksS P w A.in1 I fp wr G n Pv St) (S : Addr) (hSf : S ∉ fp) (xs : List Str) (hn : n = xs.length) (hb : xs.length + 1 < scanBound) (hval : ∀ i v, Pv i v → ∃ x t, xs[i]? = some x ∧ v = .str x t) :
    ∀ (k i : Nat) (s : Shared), n - i = k → i ≤ n → St i s → SetX P w s.heap S (ded (xs.take i)) →
      (∀ s', Moved (S :: wr) G s s' → SetX P w s'.heap S (ded xs) → R (.ok (.ret .none)) s') →
      codeAny (model P w) A (.builtin "set.update.loop" ⟨[.ref S, .ref I], []⟩) R s := by
  have hSw : S ∉ wr := fun h => hSf (W.sub _ h)
  have hsub : ∀ b ∈ wr, b ∈ S :: wr := fun b hb => List.mem_cons_of_mem _ hb
  intro k
  induction k with
  | zero =>
    intro i s hk' hi hst hS hR
    have hin : i = n := by omega
    subst hin
    refine codeAny_builtin F.entry_set_update_loop ?_
    rw [Around.under_plainId F.plain_set_update_loop _]
    show wpAny _ A.in1 (pyNext (.ref I) >>= _) _ _ s
    refine wpAny_bind (W.done s _ _ hst fun s' hm => ?_)
    show wpAny _ A.in1 (ret Value.none) _ _ s'
    rw [List.take_of_length_le (by omega)] at hS
    exact wpAny_pure (hR s' (hm.mono hsub) (hS.at fun o e => hm.heap S o hSw e))
  | succ k ih =>
    intro i s hk' hi hst hS hR
    have hlt : i < n := by omega
    refine codeAny_builtin F.entry_set_update_loop ?_
    rw [Around.under_plainId F.plain_set_update_loop _]
    show wpAny _ A.in1 (pyNext (.ref I) >>= _) _ _ s
    refine wpAny_bind (W.item i s _ _ hlt hst fun v s' hP hst' hm => ?_)
    obtain ⟨z, t, hz, rfl⟩ := hval i v hP
    have hS' : SetX P w s'.heap S (ded (xs.take i)) := hS.at fun o e => hm.heap S o hSw e
    have dl := ded_le (xs.take i)
    rw [List.length_take] at dl
    show wpAny _ A.in1 (holding [Value.str z t] (setAdd S (.str z t)) >>= _) _ _ s'
    refine wpAny_bind (wpAny_holding ?_)
    unfold setAdd
    refine wpAny_holding ?_
    refine wpAny_bind ((strKind P w).pyHash (k := z) (strKind_is _ _ _ _) ?_)
    refine setX_add (s := { s' with toks := s'.toks + 1 }) hS' (by omega) fun b h' hsb hS2 => ?_
    rw [← ded_snoc, ← take_snoc hz] at hS2
    refine wpAny_pure ⟨plainId_quiet F.plain_set_update_loop _, ih (i + 1) _ (by omega) hlt (W.frame _ s' _ _ hst' (Nat.le_succ _) fun b hb o e => ?_) hS2 fun s'' hm'' hS'' => ?_⟩
    · rw [hsb.2 b (fun h : b = S => hSf (by rw [← h]; exact hb))]; exact e
    · refine hR s'' (Moved.trans W.gtrans ((hm.mono hsub).then_heap (Nat.le_succ _) fun b o hb e => ?_) hm'') hS''
      rw [hsb.2 b (fun h : b = S => hb (by rw [h]; exact List.mem_cons_self))]; exact e
end
end My

/-! set(x) of a list of texts or of a text, len and sorted of it -/
namespace My
open PySem PySem.Spec PyProof.Rows L2 Evl
section
variable {P : Program} {w : World} {A : Around} {E : Value → Shared → Prop} {s : Shared}
theorem set_of_list {l : Addr} {items : Array Value} (xs : List Str) {Q : Value → Shared → Prop} (hh : A.handled = none) (hl : s.heap.IsList l items) (hit : StrsAre items.toList xs) (hb : xs.length + 1 < scanBound)
    (q : ∀ (h' : Heap) (tk : Nat), SetX P w h' s.heap.objs.size (ded xs) → (∀ b o, s.heap.get? b = some o → h'.get? b = some o) → Q (.ref s.heap.objs.size) { s with heap := h', toks := tk }) :
    wpAny (model P w) A (call (.type "set") [.ref l]) Q E s := by
  have hisz : items.size = xs.length := by
    have e := StrsAre.len_eq hit
    rw [Array.length_toList] at e
    exact e
  obtain ⟨c, tl, hmro⟩ := F.called_set.mro
  have hmade := F.called_set.made
  have hsub := F.called_set.sub
  refine wpAny_call (codeAny_of_tree ?_)
  show wpAny _ _ (callAny (.type "set") _) _ _ _
  refine wpAny_pure ⟨Code.quiet_builtin _ (by decide +kernel), codeAny_builtin F.entry_type_call ?_⟩
  rw [Around.under_plain (weight_type_call_type "set" [.ref l] []) rfl]
  have h1 := F.called_set.notType
  have h2 := F.called_set.canCreate
  have hct := F.typeCall_set_1 (.ref l)
  repeat (any_goals (first | assumption | wp_step))
  refine codeAny_mono (code_set_led1 (.ref l) (E := E) (Q₁ := fun obj s1 => obj = .ref s.heap.objs.size ∧ s1 = { s with heap := s.heap.push { cls := .type "set", dict := none, data := .set #[] 0 (.fresh 0 0 (!w.params.followText "set-order")) } }) ⟨rfl, rfl⟩) fun r s1 hr => ?_
  cases r with
  | error e => exact hr
  | ok fl =>
    cases fl with
    | ret obj =>
      obtain ⟨rfl, rfl⟩ := hr
      generalize hob : ({ cls := .type "set", dict := none, data := .set #[] 0 (.fresh 0 0 (!w.params.followText "set-order")) } : Obj) = ob
      have hoc : ob.cls = .type "set" := by rw [← hob]
      have hS : (s.heap.push ob).get? s.heap.objs.size = some ob := Heap.get?_push_size _ (by rw [← hob]; rfl)
      have hT : Shared.TypeIs { s with heap := s.heap.push ob } (.ref s.heap.objs.size) "set" := ⟨_, hS, hoc⟩
      have hli := F.called_set.init.lookup
      have hbi := F.called_set.init.bind (.ref s.heap.objs.size)
      repeat (any_goals (first | assumption | wp_step))
      refine codeAny_mono (codeAny_call_builtin (R := wants (fun r s2 => r = .none ∧ ∃ h' tk, s2 = { s with heap := h', toks := tk } ∧ SetX P w h' s.heap.objs.size (ded xs) ∧
          (∀ b o, s.heap.get? b = some o → h'.get? b = some o)) E) F.called_set.init.plain F.entry_set_init (check_set_init_1 hT ?_)) fun r2 s2 hr2 => ?_
      · obtain ⟨ol, hol, hcl, nl, hdl⟩ := hl
        obtain ⟨ocls, odict, odata, oslots⟩ := ol
        simp only at hcl hdl
        subst hcl; subst hdl
        have hol' : (s.heap.push ob).get? l = some { cls := .type "list", dict := odict, data := .seq items nl, slots := oslots } := Heap.get?_push_of_some _ hol
        have hsls := F.sub_list_set
        have hslf := F.sub_list_frozenset
        have hne : (Value.type "list" == Value.type "dict") = false := by decide
        have hl1 : (s.heap.push ob).IsList l items := ⟨_, hol', rfl, nl, rfl⟩
        subst hob
        unfold Builtin.«set.__init__» noKeywords Builtin.Frozenset.updateFrom
        generalize hPI : pyIter = PI
        wp_walk
        subst hPI
        refine wpAny_pyIter_list hl1 ?_
        refine wpAny_bind (wpAny_runValue ?_)
        have hlS : l < s.heap.objs.size := Heap.lt_size hol
        have hh3 : A.in1.in1.in1.handled = none := by simp [hh]
        generalize hob : ({ cls := .type "set", dict := none, data := .set #[] 0 (.fresh 0 0 (!w.params.followText "set-order")) } : Obj) = ob at *
        have hneI : l ≠ (s.heap.push ob).objs.size := by
          rw [Heap.size_push]; exact Nat.ne_of_lt (Nat.lt_succ_of_lt hlS)
        have hSf : s.heap.objs.size ∉ [(s.heap.push ob).objs.size, l] := by
          rw [Heap.size_push]; simp only [List.mem_cons, List.mem_singleton, List.not_mem_nil, or_false, not_or]
          exact ⟨Nat.ne_of_lt (Nat.lt_succ_self _), Nat.ne_of_gt hlS⟩
        have hval : ∀ (i : Nat) (v : Value), items[i]? = some v → ∃ x t, xs[i]? = some x ∧ v = .str x t := fun i v hv => by
          have hi : i < xs.length := by rw [← hisz]; exact (Array.getElem?_eq_some_iff.mp hv).1
          obtain ⟨t, e⟩ := SS.strs_at hit i v (by rw [Array.getElem?_toList]; exact hv)
          refine ⟨xs[i], t, List.getElem?_eq_getElem hi, ?_⟩
          rw [e, List.getD_eq_getElem?_getD, List.getElem?_eq_getElem hi] <;> rfl
        refine setX_loop ((Walks.list hh3 _ l hneI items).toS) s.heap.objs.size
          hSf xs hisz hb hval (items.size - 0) 0 _ (by omega) (Nat.zero_le _)
          ⟨⟨_, Heap.get?_push_size _ rfl, rfl, rfl⟩, (hl1.push _)⟩ ?hS0 ?hR
        case hS0 => exact setX_new (Heap.get?_push_of_some _ (by rw [hob]; exact hS))
        case hR =>
          intro s' hm hS'
          obtain ⟨h', g2, d', tk', os'⟩ := s'
          have eg : g2 = s.gens := hm.gens
          have ed : d' = s.drawn := hm.drawn
          have eo : os' = s.os := hm.os
          subst eg; subst ed; subst eo
          show wpAny _ _ _ _ _ _
          refine wpAny_pure ?_
          show wpAny _ _ (ret Value.none) _ _ _
          refine wpAny_pure ⟨rfl, h', tk', rfl, hS', fun b o e => ?_⟩
          have hb0 : b < s.heap.objs.size := Heap.lt_size e
          have hb2 : b ≠ (s.heap.push ob).objs.size := by
            rw [Heap.size_push]; exact Nat.ne_of_lt (Nat.lt_succ_of_lt hb0)
          exact hm.heap b o (by simp only [List.mem_cons, List.mem_singleton, List.not_mem_nil, or_false, not_or]; exact ⟨Nat.ne_of_lt hb0, hb2⟩) (Heap.get?_push_of_some _ (Heap.get?_push_of_some _ e))
      · cases r2 with
        | error e => exact hr2
        | ok fl2 =>
          cases fl2 with
          | ret r =>
            obtain ⟨rfl, h', tk, rfl, hS', hk'⟩ := hr2
            repeat (any_goals (first | assumption | wp_step))
            exact q _ _ hS' hk'
          | _ => exact hr2.elim
    | _ => exact hr.elim
theorem set_of_text {x : Str} {t : Tok} {Q : Value → Shared → Prop} (hh : A.handled = none) (hb : x.length + 1 < scanBound)
    (q : ∀ (h' : Heap) (tk : Nat), SetX P w h' s.heap.objs.size (ded ((sg x).map fun c => tx [c])) → (∀ b o, s.heap.get? b = some o → h'.get? b = some o) → Q (.ref s.heap.objs.size) { s with heap := h', toks := tk }) :
    wpAny (model P w) A (call (.type "set") [.str x t]) Q E s := by
  obtain ⟨c, tl, hmro⟩ := F.called_set.mro
  have hmade := F.called_set.made
  have hsub := F.called_set.sub
  refine wpAny_call (codeAny_of_tree ?_)
  show wpAny _ _ (callAny (.type "set") _) _ _ _
  refine wpAny_pure ⟨Code.quiet_builtin _ (by decide +kernel), codeAny_builtin F.entry_type_call ?_⟩
  rw [Around.under_plain (weight_type_call_type "set" [.str x t] []) rfl]
  have h1 := F.called_set.notType
  have h2 := F.called_set.canCreate
  have hct := F.typeCall_set_1 (.str x t)
  repeat (any_goals (first | assumption | wp_step))
  refine codeAny_mono (code_set_led1 (.str x t) (E := E) (Q₁ := fun obj s1 => obj = .ref s.heap.objs.size ∧ s1 = { s with heap := s.heap.push { cls := .type "set", dict := none, data := .set #[] 0 (.fresh 0 0 (!w.params.followText "set-order")) } }) ⟨rfl, rfl⟩) fun r s1 hr => ?_
  cases r with
  | error e => exact hr
  | ok fl =>
    cases fl with
    | ret obj =>
      obtain ⟨rfl, rfl⟩ := hr
      generalize hob : ({ cls := .type "set", dict := none, data := .set #[] 0 (.fresh 0 0 (!w.params.followText "set-order")) } : Obj) = ob
      have hoc : ob.cls = .type "set" := by rw [← hob]
      have hS : (s.heap.push ob).get? s.heap.objs.size = some ob := Heap.get?_push_size _ (by rw [← hob]; rfl)
      have hT : Shared.TypeIs { s with heap := s.heap.push ob } (.ref s.heap.objs.size) "set" := ⟨_, hS, hoc⟩
      have hli := F.called_set.init.lookup
      have hbi := F.called_set.init.bind (.ref s.heap.objs.size)
      repeat (any_goals (first | assumption | wp_step))
      refine codeAny_mono (codeAny_call_builtin (R := wants (fun r s2 => r = .none ∧ ∃ h' tk, s2 = { s with heap := h', toks := tk } ∧ SetX P w h' s.heap.objs.size (ded ((sg x).map fun c => tx [c])) ∧
          (∀ b o, s.heap.get? b = some o → h'.get? b = some o)) E) F.called_set.init.plain F.entry_set_init (check_set_init_1 hT ?_)) fun r2 s2 hr2 => ?_
      · have hsls := F.sub_str_set
        have hslf := F.sub_str_frozenset
        have hne : (Value.type "str" == Value.type "dict") = false := by decide
        subst hob
        unfold Builtin.«set.__init__» noKeywords Builtin.Frozenset.updateFrom
        generalize hPI : pyIter = PI
        wp_walk
        subst hPI
        refine wpAny_pyIter_str fun o St hW hst => ?_
        refine wpAny_bind (wpAny_runValue ?_)
        have hh3 : A.in1.in1.in1.handled = none := by simp [hh]
        generalize hob : ({ cls := .type "set", dict := none, data := .set #[] 0 (.fresh 0 0 (!w.params.followText "set-order")) } : Obj) = ob at *
        have hSf : s.heap.objs.size ∉ [(s.heap.push ob).objs.size] := by
          rw [Heap.size_push]; simp only [List.mem_singleton]
          exact Nat.ne_of_lt (Nat.lt_succ_self _)
        have hlen : x.cps.size = ((sg x).map fun c => tx [c]).length := by rw [List.length_map]; rfl
        have hval : ∀ (i : Nat) (v : Value), SignAt x i v → ∃ z t, ((sg x).map fun c => tx [c])[i]? = some z ∧ v = .str z t := fun i v hv => by
          obtain ⟨c, t, hc, rfl⟩ := hv
          refine ⟨tx [c], t, ?_, rfl⟩
          rw [List.getElem?_map, show (sg x)[i]? = some c by rw [← hc]; exact Array.getElem?_toList]
          rfl
        refine setX_loop (hW _ hh3).toS s.heap.objs.size hSf _ hlen (by rw [← hlen]; exact hb) hval (x.cps.size - 0) 0 _ (by omega) (Nat.zero_le _) hst ?hS0 ?hR
        case hS0 => exact setX_new (Heap.get?_push_of_some _ (by rw [hob]; exact hS))
        case hR =>
          intro s' hm hS'
          obtain ⟨h', g2, d', tk', os'⟩ := s'
          have eg : g2 = s.gens := hm.gens
          have ed : d' = s.drawn := hm.drawn
          have eo : os' = s.os := hm.os
          subst eg; subst ed; subst eo
          show wpAny _ _ _ _ _ _
          refine wpAny_pure ?_
          show wpAny _ _ (ret Value.none) _ _ _
          refine wpAny_pure ⟨rfl, h', tk', rfl, hS', fun b o e => ?_⟩
          have hb0 : b < s.heap.objs.size := Heap.lt_size e
          have hb2 : b ≠ (s.heap.push ob).objs.size := by
            rw [Heap.size_push]; exact Nat.ne_of_lt (Nat.lt_succ_of_lt hb0)
          exact hm.heap b o (by simp only [List.mem_cons, List.mem_singleton, List.not_mem_nil, or_false, not_or]; exact ⟨Nat.ne_of_lt hb0, hb2⟩) (Heap.get?_push_of_some _ (Heap.get?_push_of_some _ e))
      · cases r2 with
        | error e => exact hr2
        | ok fl2 =>
          cases fl2 with
          | ret r =>
            obtain ⟨rfl, h', tk, rfl, hS', hk'⟩ := hr2
            repeat (any_goals (first | assumption | wp_step))
            exact q _ _ hS' hk'
          | _ => exact hr2.elim
    | _ => exact hr.elim
end
end My

/-! len and sorted of sets of texts; the rules -/
namespace My
open PySem PySem.Spec PyProof.Rows L2 Evl
section
variable {P : Program} {w : World} {A : Around} {E : Value → Shared → Prop} {s : Shared}
theorem sorted_setX {a : Addr} {ks : List Str} {Q : Value → Shared → Prop} (R : SetX P w s.heap a ks) (hh : A.handled = none) (hu : A.units + 64 < cLine)
    (q : ∀ s' p (out : List Value) (c : Nat), (∀ b o, s.heap.get? b = some o → s'.heap.get? b = some o) → s'.gens = s.gens → s'.os = s.os → s.heap.objs.size ≤ p →
      s'.heap.get? p = some (seqObj "list" out.toArray c) → StrsAre out (sortS ks) → Q (.ref p) s') :
    wpAny (model P w) A (call (.builtin "sorted") [.ref a]) Q E s := by
  obtain ⟨o, es, ep, t, ho, hex, hd, g, pk, nd, hb, hf, hr, hl⟩ := R
  refine Calls.call_function_entry kind_sorted plain_sorted entry_sorted (args_sorted1 _) ?_
  unfold Builtin.«sorted»
  refine wpAny_bind (m := checkCount "sorted" 1 1 _) (wpAny_pure ?_)
  refine wpAny_bind (collect_set (A := A.in1) hh ⟨o, ho, hex.1, hd⟩ hf hb hr hl fun s1 vs k1 hz g1 o1 pm => ?_)
  have tell : ∀ (l : List (Int × Value)), (∀ e ∈ l, TxtE P w e) → ∀ {us : List Value}, us.Perm (l.map (·.2)) → ∃ xs : List Str, StrsAre us xs ∧ xs.Perm (l.map txtOf) := fun l gl us pu => by
    have all : ∀ u ∈ us, ∃ x tk, u = Value.str x tk := fun u hu => by
      obtain ⟨e, he, rfl⟩ := List.mem_map.mp (pu.mem_iff.mp hu)
      obtain ⟨x, tk, h1, _⟩ := gl e he
      exact ⟨x, tk, h1⟩
    have mk : ∀ us : List Value, (∀ u ∈ us, ∃ x tk, u = Value.str x tk) → StrsAre us (us.map fun u => txtOf (0, u)) := by
      intro us
      induction us with
      | nil => intro _; exact .nil
      | cons u us ih =>
        intro hu
        obtain ⟨x, tk, rfl⟩ := hu u (List.mem_cons_self ..)
        exact .cons x tk (ih fun v hv => hu v (List.mem_cons_of_mem _ hv))
    refine ⟨_, mk us all, ?_⟩
    have e := pu.map fun u => txtOf (0, u)
    rw [List.map_map] at e
    exact e
  obtain ⟨xs, hxs, pxs⟩ := tell es.toList g pm
  have pks : xs.Perm ks := pxs.trans pk
  have vl : vs.length = es.size := by rw [pm.length_eq, List.length_map, Array.length_toList]
  have xl : xs.length = es.size := by rw [pxs.length_eq, List.length_map, Array.length_toList]
  have big : scanBound ≤ sizeLine := by decide
  refine wpAny_bind (wpAny_newList ?_ (by omega))
  have hobj : (s1.heap.push (seqObj "list" vs.toArray 0)).get? s1.heap.objs.size = some (seqObj "list" vs.toArray 0) := Heap.get?_push_size _ rfl
  refine wpAny_bind (wpAny_holding (PySem.W.list_sort_data (A := A.in1) (R := fun v (b : Str) => ∃ t, v = Value.str b t) (enc := fun b : Str => PyData.str b) (bs := xs) hobj (each_strs hxs) ((each_strs hxs).mono fun v b ⟨t, e⟩ => ?_)
    (PySem.W.AllAlike.of fun _ _ => rfl) (PySem.W.Sortable.others fun _ => ⟨(fun z => nomatch z), (fun _ z => nomatch z)⟩) (by omega) (fun b _ => ?_) fun out olen eo => ?_))
  · subst e
    exact ⟨[], .str b t, by simp⟩
  · show A.units + 1 + 1 + 0 < cLine
    omega
  rw [le_dataS] at eo
  have hS2 := strs_each eo
  obtain ⟨e', he'⟩ := PyProof.Rows.sortedHeap_at (vs := vs) (out := out.toArray) hobj
  have esrt : xs.mergeSort leS = sortS ks := asc_ext (sortS_asc (pks.nodup_iff.mpr nd)) (sortS_asc nd) fun z => by
    rw [sortS_mem]
    exact (sortS_perm xs).mem_iff.trans pks.mem_iff
  rw [esrt] at hS2
  refine wpAny_pure ⟨_, rfl, q _ s1.heap.objs.size out e' (fun b u e => ?_) g1 o1 hz he' hS2⟩
  have h1 := k1 b u e
  have hlt := Heap.lt_size h1
  show (sortedHeap (s1.heap.push (seqObj "list" vs.toArray 0)) s1.heap.objs.size vs out.toArray).get? b = some u
  rw [sortedHeap_old (Nat.ne_of_lt hlt) (by rw [size_push']; exact Nat.lt_succ_of_lt hlt)]
  exact Heap.get?_push_of_some _ h1
end
/-! ### the rules -/
def SetH (P : Program) (w : World) (a : Addr) (ks : List Str) : HO := .ext fun h => SetX P w h a ks
section
variable {X : Cx} {K : PySem.W.Frag}
theorem setH_new {w : World} {P : Program} {H : Hp} {h : Heap} {a : Addr} {ks : List Str} (R : SetX P w h a ks) : ObjOk P w H h a (SetH P w a ks) := by
  have ⟨o, _, _, _, ho, _⟩ := R
  exact ⟨R, ⟨o, ho⟩, fun h1 h2 p k => SetX.at p k⟩
def rSetL (K : PySem.W.Frag) (P : Program) (w : World) : List V → Hp → VK → Prop := fun xs H Q =>
  (∃ (l : Addr) (ws : List Str), xs = [.ref l] ∧ SqL K H l (ws.map V.str) ∧ ws.length ≤ 4000 ∧ ∀ p, H p = none → Q (.ref p) (upd H p (SetH P w p (ded ws))))
theorem cr_setL (hc : X.calm = true) (hK : X.K = K := by rfl) : CallR X (.type "set") (rSetL K X.prog X.w) := by
  subst hK
  intro pins s σ H xs us Q I r h
  obtain ⟨l, ws, rfl, hl, hf, q⟩ := h
  rw [Vals.ref1 r]
  obtain ⟨its, rv, pl, hz⟩ := I.list hl
  have hn : H s.heap.objs.size = none := I.hok.fresh (Nat.le_refl _)
  refine set_of_list ws (I.ok.hd hc) pl.isList (by simpa using L2.strsAre_of rv) (by show ws.length + 1 < 4096; omega) fun h' tk R k => ?_
  exact ⟨.ref s.heap.objs.size, _, I.laid (t' := tk) k (Nat.le_refl _) (setH_new R), rfl, q _ hn⟩
def rSetS (P : Program) (w : World) : List V → Hp → VK → Prop := fun xs H Q => ∃ x, xs = [.str x] ∧ x.length ≤ 4000 ∧ ∀ p, H p = none → Q (.ref p) (upd H p (SetH P w p (ded ((sg x).map fun c => tx [c]))))
theorem cr_setS (hc : X.calm = true) : CallR X (.type "set") (rSetS X.prog X.w) := by
  intro pins s σ H xs us Q I r h
  obtain ⟨x, rfl, hf, q⟩ := h
  obtain ⟨u, rfl, rx⟩ := vals1 r
  obtain ⟨t, rfl⟩ := rx
  have hn : H s.heap.objs.size = none := I.hok.fresh (Nat.le_refl _)
  refine set_of_text (I.ok.hd hc) (by show x.length + 1 < 4096; omega) fun h' tk R k => ?_
  exact ⟨.ref s.heap.objs.size, _, I.laid (t' := tk) k (Nat.le_refl _) (setH_new R), rfl, q _ hn⟩
def rLenSet (P : Program) (w : World) : List V → Hp → VK → Prop := fun xs H Q => ∃ a ks, xs = [.ref a] ∧ H a = some (SetH P w a ks) ∧ Q (.int (ks.length : Nat)) H
theorem cr_lenSet : CallR X (.builtin "len") (rLenSet X.prog X.w) := by
  intro pins s σ H xs us Q I r h
  obtain ⟨a, ks, rfl, ha, q⟩ := h
  rw [Vals.ref1 r]
  have R : SetX X.prog X.w s.heap a ks := (I.hok a _ ha).1
  obtain ⟨o, es, ep, t, ho, hex, hd, g, pk, nd, hb, hf, hr, hl⟩ := R
  have el : es.size = ks.length := by rw [← pk.length_eq, List.length_map, Array.length_toList]
  have small : es.size < 4096 := hb
  refine call_len_set ho hex hd hf (by omega) ⟨.int ks.length, H, I.tok _, ⟨_, by rw [el]⟩, q⟩
def rSortSet (P : Program) (w : World) : List V → Hp → VK → Prop := fun xs H Q => ∃ a ks, xs = [.ref a] ∧ H a = some (SetH P w a ks) ∧ ∀ p, H p = none → Q (.ref p) (upd H p (.lst ((sortS ks).map V.str)))
theorem cr_sortSet (hc : X.calm = true) (hu : X.A.units + 64 < cLine) : CallR X (.builtin "sorted") (rSortSet X.prog X.w) := by
  intro pins s σ H xs us Q I r h
  obtain ⟨a, ks, rfl, ha, q⟩ := h
  rw [Vals.ref1 r]
  have R : SetX X.prog X.w s.heap a ks := (I.hok a _ ha).1
  have kb : ks.length < 4096 := by
    obtain ⟨o, es, ep, t, ho, hex, hd, g, pk, nd, hb, _⟩ := R
    have el : es.size = ks.length := by rw [← pk.length_eq, List.length_map, Array.length_toList]
    have : es.size < 4096 := hb
    omega
  refine sorted_setX R (I.ok.hd hc) hu fun s' p out c k g o hp hg hs => ?_
  have hlen : ((sortS ks).map V.str).length ≤ sizeLine := by rw [List.length_map, sortS_len]; exact sz_of (by omega)
  have hn : H p = none := I.hok.fresh hp
  have J : Inv X pins σ (upd H p (.lst ((sortS ks).map V.str))) { s with heap := s'.heap, gens := s'.gens, drawn := s'.drawn, toks := s'.toks } :=
    I.call (ch := []) (Un.laid k hp hn) (I.hok.laid k hp ⟨hlen, out, c, vals_of_strs hs, hg⟩) (by rw [g]; exact I.bare) (fun _ z => nomatch z)
  have e : s' = { s with heap := s'.heap, gens := s'.gens, drawn := s'.drawn, toks := s'.toks } := by
    cases s'
    cases s
    cases o
    rfl
  rw [e]
  exact ⟨.ref p, _, J, rfl, q p hn⟩
end
end My

/-! zip of two things, each a list or a tuple; dict of it -/
namespace My
open PySem PySem.Spec PyProof.Rows L2 Evl
def qIt (b : Bool) (h : Heap) (it l : Addr) (k : Nat) : Prop := match b with
  | true => h.IsListIter it l k
  | false => h.IsTupleIter it l k
def qSq (b : Bool) (h : Heap) (l : Addr) (xs : Array Value) : Prop := match b with
  | true => h.IsList l xs
  | false => h.IsTuple l xs
section
variable {h h' : Heap} {it l c : Addr} {k : Nat} {xs : Array Value}
theorem qIt.to {b : Bool} (x : qIt b h it l k) (e : ∀ o, h.get? it = some o → h'.get? it = some o) : qIt b h' it l k := by
  cases b
  · exact Heap.IsTupleIter.at x e
  · exact Heap.IsListIter.at x e
theorem qSq.to {b : Bool} (x : qSq b h l xs) (e : ∀ o, h.get? l = some o → h'.get? l = some o) : qSq b h' l xs := by
  cases b
  · exact Heap.IsTuple.at x e
  · exact Heap.IsList.at x e
theorem qIt.but {b : Bool} (x : qIt b h it l k) (sb : Heap.SameBut c h h') (n : it ≠ c) : qIt b h' it l k := x.to fun o e => sb.extBut _ _ n e
theorem qSq.but {b : Bool} (x : qSq b h l xs) (sb : Heap.SameBut c h h') (n : l ≠ c) : qSq b h' l xs := x.to fun o e => sb.extBut _ _ n e
theorem qIt.obj {b : Bool} (x : qIt b h it l k) : ∃ o, h.get? it = some o ∧ ∀ v, o.data ≠ .cell v := by
  cases b
  · obtain ⟨o, e, _, d⟩ := x
    exact ⟨o, e, fun v q => by rw [d] at q; cases q⟩
  · obtain ⟨o, e, _, d⟩ := x
    exact ⟨o, e, fun v q => by rw [d] at q; cases q⟩
theorem qSq.obj {b : Bool} (x : qSq b h l xs) : ∃ o, h.get? l = some o := by
  cases b
  · obtain ⟨o, e, _⟩ := x
    exact ⟨o, e⟩
  · obtain ⟨o, e, _⟩ := x
    exact ⟨o, e⟩
end
section
variable {P : Program} {w : World} {A : Around} {E : Value → Shared → Prop} {s : Shared}
theorem q_next {b : Bool} {it l : Addr} {i : Nat} {xs : Array Value} {x : Value} {Q : Value → Shared → Prop} (hit : qIt b s.heap it l i) (hl : qSq b s.heap l xs) (hx : xs[i]? = some x)
    (q : ∀ h', qIt b h' it l (i + 1) → Heap.SameBut it s.heap h' → Q x { s with heap := h' }) : wpAny (model P w) A (Builtin.SmallTypes.nextOf (.ref it)) Q E s := by
  cases b
  · exact RZ.nextOf_tuple_item hit hl hx q
  · exact wpAny_nextOf_list_item hit hl hx q
theorem q_stop {b : Bool} {it l : Addr} {i : Nat} {xs : Array Value} {Q : Value → Shared → Prop} (hh : A.handled = none) (hit : qIt b s.heap it l i) (hl : qSq b s.heap l xs) (hx : xs[i]? = none)
    (q : ∀ h' e, Heap.ExtBut it s.heap h' → (∃ o, h'.get? e = some o ∧ o.cls = .type "StopIteration") → E (.ref e) { s with heap := h' }) : wpAny (model P w) A (Builtin.SmallTypes.nextOf (.ref it)) Q E s := by
  cases b
  · exact RZ.nextOf_tuple_end hh hit hl hx q
  · exact wpAny_nextOf_list_end hh hit hl hx q
/-- what stays where a zip turns -/
abbrev ZKeep (h h' : Heap) (z TO i1 i2 : Addr) : Prop := ∀ c o, c ≠ z → c ≠ TO → c ≠ i1 → c ≠ i2 → h.get? c = some o → h'.get? c = some o
section
variable {z TI TO i1 i2 l1 l2 : Addr} {k1 k2 : Nat} {xs ys : Array Value} {x y u v : Value} {b1 b2 : Bool}
theorem zq_item {Q : Value → Shared → Prop} (D : ZipApart z TI TO i1 i2 l1 l2) (hz : IsZip s.heap z TI TO .none) (hTI : IsPair s.heap TI (.ref i1) (.ref i2)) (hTO : IsPair s.heap TO u v)
    (h1 : qIt b1 s.heap i1 l1 k1) (h2 : qIt b2 s.heap i2 l2 k2) (hl1 : qSq b1 s.heap l1 xs) (hl2 : qSq b2 s.heap l2 ys) (hx : xs[k1]? = some x) (hy : ys[k2]? = some y)
    (q : ∀ h', IsZip h' z TI TO (rawInt s.heap.objs.size) → IsPair h' TO x y → qIt b1 h' i1 l1 (k1 + 1) → qIt b2 h' i2 l2 (k2 + 1) → IsPair h' s.heap.objs.size x y → h'.objs.size = s.heap.objs.size + 1 → ZKeep s.heap h' z TO i1 i2 →
      Q (.ref s.heap.objs.size) { s with heap := h' }) :
    wpAny (model P w) A (Builtin.«zip.__next__» ⟨[.ref z], []⟩) (fun fin s' => ∃ r, fin = .done (.ret r) ∧ Q r s') E s := by
  show wpAny _ _ (field (.ref z) 2 >>= _) _ _ _
  refine wpAny_bind (wpAny_field hz rfl (x := .bool false) rfl ?_)
  show wpAny _ _ (field (.ref z) 3 >>= _) _ _ _
  refine wpAny_bind (wpAny_field hz rfl (x := .ref TI) rfl (wpAny_bind (wpAny_seqItems hTI rfl ?_)))
  show wpAny _ _ (Builtin.SmallTypes.ownedTupleIsFree (.ref z) >>= _) _ _ _
  refine wpAny_bind ?_
  unfold Builtin.SmallTypes.ownedTupleIsFree
  refine wpAny_bind (wpAny_field hz rfl (x := .none) rfl (wpAny_pure ?_))
  simp only [if_true]
  refine wpAny_bind (wpAny_rule (wpAny_bind (wpAny_field hz rfl (x := .ref TO) rfl ?_)))
  refine wpAny_bind (wpAny_setField_rec hz (by simp) fun ha za sa => ?_)
  replace za : IsZip ha z TI TO .ellipsis := za
  refine wpAny_bind ?_
  simp only [List.zipIdx_cons, List.zipIdx_nil, List.forIn_cons, List.forIn_nil]
  refine wpAny_bind (wpAny_bind (wpAny_onRaise ?_))
  show wpAny _ _ (Builtin.SmallTypes.nextOf (.ref i1) >>= _) _ _ _
  refine wpAny_bind (q_next (h1.but sa D.i1z) (hl1.but sa D.l1z) hx fun hb h1b sb => wpAny_pure ?_)
  have tb : IsPair hb TO u v := sb.extBut _ _ D.TOi1 (sa.extBut _ _ D.TOz hTO)
  refine wpAny_bind (wpAny_seqItems tb rfl ?_)
  refine wpAny_bind (wpAny_updateSeq_pair tb fun hc tc sc => ?_)
  replace tc : IsPair hc TO x v := tc
  refine wpAny_bind (wpAny_letGo (wpAny_pure ?_))
  refine wpAny_bind (wpAny_bind (wpAny_onRaise ?_))
  show wpAny _ _ (Builtin.SmallTypes.nextOf (.ref i2) >>= _) _ _ _
  refine wpAny_bind (q_next (((h2.but sa D.i2z).but sb D.i12.symm).but sc D.TOi2.symm) (((hl2.but sa D.l2z).but sb D.l2i1).but sc D.l2TO) hy fun hd h2d sd => wpAny_pure ?_)
  have td : IsPair hd TO x v := sd.extBut _ _ D.TOi2 tc
  refine wpAny_bind (wpAny_seqItems td rfl ?_)
  refine wpAny_bind (wpAny_updateSeq_pair td fun he te se => ?_)
  replace te : IsPair he TO x y := te
  refine wpAny_bind (wpAny_letGo (wpAny_pure (wpAny_pure ?_)))
  refine wpAny_bind (wpAny_seqItems te rfl (wpAny_bind (wpAny_newTuple ?_)))
  have size5 : he.objs.size = s.heap.objs.size := by rw [se.1, sd.1, sc.1, sb.1, sa.1]
  have z5 : IsZip he z TI TO .ellipsis := se.extBut _ _ D.TOz.symm (sd.extBut _ _ D.i2z.symm (sc.extBut _ _ D.TOz.symm (sb.extBut _ _ D.i1z.symm za)))
  have k5 : ZKeep s.heap he z TO i1 i2 := fun c o n1 n2 n3 n4 e => se.extBut _ _ n2 (sd.extBut _ _ n4 (sc.extBut _ _ n2 (sb.extBut _ _ n3 (sa.extBut _ _ n1 e))))
  have h15 : qIt b1 he i1 l1 (k1 + 1) := ((h1b.but sc D.TOi1.symm).but sd D.i12).but se D.TOi1.symm
  have h25 : qIt b2 he i2 l2 (k2 + 1) := h2d.but se D.TOi2.symm
  have zlt : z < he.objs.size := Heap.lt_size z5
  show wpAny _ _ (Builtin.SmallTypes.ownedTupleHandOut (.ref z) (.ref he.objs.size) >>= _) _ _ _
  refine wpAny_bind ?_
  unfold Builtin.SmallTypes.ownedTupleHandOut
  have z6 : IsZip (he.push { cls := .type "tuple", data := .seq #[x, y] }) z TI TO .ellipsis := Heap.get?_push_of_some _ z5
  refine wpAny_bind (wpAny_setField_rec z6 (by simp) fun hf z7 s7 => ?_)
  replace z7 : IsZip hf z TI TO (rawInt he.objs.size) := z7
  refine wpAny_setField_rec z7 (by simp) fun hg z8 s8 => ?_
  replace z8 : IsZip hg z TI TO (rawInt he.objs.size) := z8
  have up : ∀ c o, c ≠ z → he.get? c = some o → hg.get? c = some o := fun c o n e => s8.extBut _ _ n (s7.extBut _ _ n (Heap.get?_push_of_some _ e))
  have p8 : IsPair hg he.objs.size x y := s8.extBut _ _ (Nat.ne_of_gt zlt) (s7.extBut _ _ (Nat.ne_of_gt zlt) (Heap.get?_push_size _ rfl))
  have size8 : hg.objs.size = he.objs.size + 1 := by rw [s8.1, s7.1, Heap.size_push]
  rw [size5] at z8 p8 size8
  refine wpAny_pure ⟨_, rfl, ?_⟩
  show Q (.ref he.objs.size) _
  rw [size5]
  exact q hg z8 (up _ _ D.TOz te) (h15.to fun o e => up _ o D.i1z e) (h25.to fun o e => up _ o D.i2z e) p8 size8 fun c o n1 n2 n3 n4 e => up c o n1 (k5 c o n1 n2 n3 n4 e)
theorem zq_end {Q : Fin → Shared → Prop} (hh : A.handled = none) (D : ZipApart z TI TO i1 i2 l1 l2) (hz : IsZip s.heap z TI TO .none) (hTI : IsPair s.heap TI (.ref i1) (.ref i2)) (hTO : IsPair s.heap TO u v)
    (h1 : qIt b1 s.heap i1 l1 k1) (h2 : qIt b2 s.heap i2 l2 k2) (hl1 : qSq b1 s.heap l1 xs) (hl2 : qSq b2 s.heap l2 ys) (stop : xs[k1]? = none ∨ ys[k2]? = none)
    (q : ∀ h' e, ZKeep s.heap h' z TO i1 i2 → (∃ o, h'.get? e = some o ∧ o.cls = .type "StopIteration") → E (.ref e) { s with heap := h' }) :
    wpAny (model P w) A (Builtin.«zip.__next__» ⟨[.ref z], []⟩) Q E s := by
  show wpAny _ _ (field (.ref z) 2 >>= _) _ _ _
  refine wpAny_bind (wpAny_field hz rfl (x := .bool false) rfl ?_)
  show wpAny _ _ (field (.ref z) 3 >>= _) _ _ _
  refine wpAny_bind (wpAny_field hz rfl (x := .ref TI) rfl (wpAny_bind (wpAny_seqItems hTI rfl ?_)))
  show wpAny _ _ (Builtin.SmallTypes.ownedTupleIsFree (.ref z) >>= _) _ _ _
  refine wpAny_bind ?_
  unfold Builtin.SmallTypes.ownedTupleIsFree
  refine wpAny_bind (wpAny_field hz rfl (x := .none) rfl (wpAny_pure ?_))
  simp only [if_true]
  refine wpAny_bind (wpAny_rule (wpAny_bind (wpAny_field hz rfl (x := .ref TO) rfl ?_)))
  refine wpAny_bind (wpAny_setField_rec hz (by simp) fun ha za sa => ?_)
  replace za : IsZip ha z TI TO .ellipsis := za
  refine wpAny_bind ?_
  simp only [List.zipIdx_cons, List.zipIdx_nil, List.forIn_cons, List.forIn_nil]
  refine wpAny_bind (wpAny_bind (wpAny_onRaise ?_))
  show wpAny _ _ (Builtin.SmallTypes.nextOf (.ref i1) >>= _) _ _ _
  cases hx : xs[k1]? with
  | none =>
    refine wpAny_bind (q_stop hh (h1.but sa D.i1z) (hl1.but sa D.l1z) hx fun hb e kb ⟨oe, hoe, hce⟩ => ?_)
    have zb : IsZip hb z TI TO .ellipsis := kb _ _ D.i1z.symm za
    have ez : e ≠ z := fun c => by subst c; rw [zb] at hoe; cases hoe; simp at hce
    exact wpAny_setField_rec zb (by simp) fun hc _ sc => q hc e (fun c o n1 _ n3 _ e2 => sc.extBut _ _ n1 (kb _ _ n3 (sa.extBut _ _ n1 e2))) ⟨oe, sc.extBut _ _ ez hoe, hce⟩
  | some x =>
    have hy : ys[k2]? = none := stop.resolve_left fun c => by rw [hx] at c; cases c
    refine wpAny_bind (q_next (h1.but sa D.i1z) (hl1.but sa D.l1z) hx fun hb h1b sb => wpAny_pure ?_)
    have tb : IsPair hb TO u v := sb.extBut _ _ D.TOi1 (sa.extBut _ _ D.TOz hTO)
    refine wpAny_bind (wpAny_seqItems tb rfl ?_)
    refine wpAny_bind (wpAny_updateSeq_pair tb fun hc tc sc => ?_)
    refine wpAny_bind (wpAny_letGo (wpAny_pure ?_))
    refine wpAny_bind (wpAny_bind (wpAny_onRaise ?_))
    show wpAny _ _ (Builtin.SmallTypes.nextOf (.ref i2) >>= _) _ _ _
    refine wpAny_bind (q_stop hh (((h2.but sa D.i2z).but sb D.i12.symm).but sc D.TOi2.symm) (((hl2.but sa D.l2z).but sb D.l2i1).but sc D.l2TO) hy fun hd e kd ⟨oe, hoe, hce⟩ => ?_)
    have zd : IsZip hd z TI TO .ellipsis := kd _ _ D.i2z.symm (sc.extBut _ _ D.TOz.symm (sb.extBut _ _ D.i1z.symm za))
    have ez : e ≠ z := fun c => by subst c; rw [zd] at hoe; cases hoe; simp at hce
    exact wpAny_setField_rec zd (by simp) fun hf _ sf => q hf e (fun c o n1 n2 n3 n4 e2 => sf.extBut _ _ n1 (kd _ _ n4 (sc.extBut _ _ n2 (sb.extBut _ _ n3 (sa.extBut _ _ n1 e2))))) ⟨oe, sf.extBut _ _ ez hoe, hce⟩
theorem zq_itemH {T : Addr} {f : Bool} {oT : Obj} {Q : Value → Shared → Prop} (D : ZipApart z TI TO i1 i2 l1 l2) (hz : IsZipHeld s.heap z TI TO T f) (hT : s.heap.get? T = some oT) (hTI : IsPair s.heap TI (.ref i1) (.ref i2))
    (h1 : qIt b1 s.heap i1 l1 k1) (h2 : qIt b2 s.heap i2 l2 k2) (hl1 : qSq b1 s.heap l1 xs) (hl2 : qSq b2 s.heap l2 ys) (hx : xs[k1]? = some x) (hy : ys[k2]? = some y)
    (q : ∀ h', IsZipHeld h' z TI TO T true → qIt b1 h' i1 l1 (k1 + 1) → qIt b2 h' i2 l2 (k2 + 1) → IsPair h' s.heap.objs.size x y → h'.objs.size = s.heap.objs.size + 1 →
      (∀ c o, c ≠ z → c ≠ i1 → c ≠ i2 → s.heap.get? c = some o → h'.get? c = some o) → Q (.ref s.heap.objs.size) { s with heap := h' }) :
    wpAny (model P w) A (Builtin.«zip.__next__» ⟨[.ref z], []⟩) (fun fin s' => ∃ r, fin = .done (.ret r) ∧ Q r s') E s := by
  show wpAny _ _ (field (.ref z) 2 >>= _) _ _ _
  refine wpAny_bind (wpAny_field hz rfl (x := .bool false) rfl ?_)
  show wpAny _ _ (field (.ref z) 3 >>= _) _ _ _
  refine wpAny_bind (wpAny_field hz rfl (x := .ref TI) rfl (wpAny_bind (wpAny_seqItems hTI rfl ?_)))
  show wpAny _ _ (Builtin.SmallTypes.ownedTupleIsFree (.ref z) >>= _) _ _ _
  refine wpAny_bind (wpAny_tupleHeld_zip hz hT fun ha za sa => ?_)
  simp only [Bool.false_eq_true, if_false]
  refine wpAny_bind ?_
  rw [← Array.forIn_toList]
  simp only [List.forIn_cons, List.forIn_nil]
  refine wpAny_bind (wpAny_bind (wpAny_holding ?_))
  show wpAny _ _ (Builtin.SmallTypes.nextOf (.ref i1) >>= _) _ _ _
  refine wpAny_bind (q_next (s := { s with heap := ha }) (h1.but sa D.i1z) (hl1.but sa D.l1z) hx fun hb h1b sb => wpAny_pure (wpAny_pure ?_))
  refine wpAny_bind (wpAny_bind (wpAny_holding ?_))
  show wpAny _ _ (Builtin.SmallTypes.nextOf (.ref i2) >>= _) _ _ _
  refine wpAny_bind (q_next (s := { s with heap := hb }) ((h2.but sa D.i2z).but sb D.i12.symm) ((hl2.but sa D.l2z).but sb D.l2i1) hy fun hc h2c sc => wpAny_pure (wpAny_pure (wpAny_pure ?_)))
  show wpAny _ _ (newTuple [x, y] >>= _) _ _ _
  refine wpAny_bind (wpAny_newTuple (wpAny_pure ⟨_, rfl, ?_⟩))
  have sz3 : hc.objs.size = s.heap.objs.size := by rw [sc.1, sb.1, sa.1]
  have zc : IsZipHeld hc z TI TO T true := sc.extBut _ _ D.i2z.symm (sb.extBut _ _ D.i1z.symm za)
  have kc : ∀ c o, c ≠ z → c ≠ i1 → c ≠ i2 → s.heap.get? c = some o → hc.get? c = some o := fun c o n1 n2 n3 e => sc.extBut _ _ n3 (sb.extBut _ _ n2 (sa.extBut _ _ n1 e))
  have h1c : qIt b1 hc i1 l1 (k1 + 1) := h1b.but sc D.i12
  show Q (.ref hc.objs.size) _
  have pc : IsPair (hc.push { cls := .type "tuple", data := .seq #[x, y] }) hc.objs.size x y := Heap.get?_push_size _ rfl
  have sz4 : (hc.push { cls := .type "tuple", data := .seq #[x, y] }).objs.size = hc.objs.size + 1 := Heap.size_push ..
  rw [sz3] at pc sz4 ⊢
  exact q _ (Heap.get?_push_of_some _ zc) (h1c.to fun o e => Heap.get?_push_of_some _ e) (h2c.to fun o e => Heap.get?_push_of_some _ e) pc sz4 fun c o n1 n2 n3 e => Heap.get?_push_of_some _ (kc c o n1 n2 n3 e)
theorem zq_endH {T : Addr} {f : Bool} {oT : Obj} {Q : Fin → Shared → Prop} (hh : A.handled = none) (D : ZipApart z TI TO i1 i2 l1 l2) (hz : IsZipHeld s.heap z TI TO T f) (hT : s.heap.get? T = some oT) (hTI : IsPair s.heap TI (.ref i1) (.ref i2))
    (h1 : qIt b1 s.heap i1 l1 k1) (h2 : qIt b2 s.heap i2 l2 k2) (hl1 : qSq b1 s.heap l1 xs) (hl2 : qSq b2 s.heap l2 ys) (stop : xs[k1]? = none ∨ ys[k2]? = none)
    (q : ∀ h' e, (∀ c o, c ≠ z → c ≠ i1 → c ≠ i2 → s.heap.get? c = some o → h'.get? c = some o) → (∃ o, h'.get? e = some o ∧ o.cls = .type "StopIteration") → E (.ref e) { s with heap := h' }) :
    wpAny (model P w) A (Builtin.«zip.__next__» ⟨[.ref z], []⟩) Q E s := by
  show wpAny _ _ (field (.ref z) 2 >>= _) _ _ _
  refine wpAny_bind (wpAny_field hz rfl (x := .bool false) rfl ?_)
  show wpAny _ _ (field (.ref z) 3 >>= _) _ _ _
  refine wpAny_bind (wpAny_field hz rfl (x := .ref TI) rfl (wpAny_bind (wpAny_seqItems hTI rfl ?_)))
  show wpAny _ _ (Builtin.SmallTypes.ownedTupleIsFree (.ref z) >>= _) _ _ _
  refine wpAny_bind (wpAny_tupleHeld_zip hz hT fun ha za sa => ?_)
  simp only [Bool.false_eq_true, if_false]
  refine wpAny_bind ?_
  rw [← Array.forIn_toList]
  simp only [List.forIn_cons, List.forIn_nil]
  refine wpAny_bind (wpAny_bind (wpAny_holding ?_))
  show wpAny _ _ (Builtin.SmallTypes.nextOf (.ref i1) >>= _) _ _ _
  cases hx : xs[k1]? with
  | none =>
    refine wpAny_bind (q_stop (s := { s with heap := ha }) hh (h1.but sa D.i1z) (hl1.but sa D.l1z) hx fun hb e kb he => ?_)
    exact q hb e (fun c o n1 n2 _ e2 => kb _ _ n2 (sa.extBut _ _ n1 e2)) he
  | some x =>
    have hy : ys[k2]? = none := stop.resolve_left fun c => by rw [hx] at c; cases c
    refine wpAny_bind (q_next (s := { s with heap := ha }) (h1.but sa D.i1z) (hl1.but sa D.l1z) hx fun hb h1b sb => wpAny_pure (wpAny_pure ?_))
    refine wpAny_bind (wpAny_bind (wpAny_holding ?_))
    show wpAny _ _ (Builtin.SmallTypes.nextOf (.ref i2) >>= _) _ _ _
    refine wpAny_bind (q_stop (s := { s with heap := hb }) hh ((h2.but sa D.i2z).but sb D.i12.symm) ((hl2.but sa D.l2z).but sb D.l2i1) hy fun hc e kc he => ?_)
    exact q hc e (fun c o n1 n2 n3 e2 => kc _ _ n3 (sb.extBut _ _ n2 (sa.extBut _ _ n1 e2))) he
end
theorem z_next {z : Addr} {Q : Option Value → Shared → Prop} (hT : s.TypeIs (.ref z) "zip") (h : wpAny (model P w) A.in1 (Builtin.«zip.__next__» ⟨[.ref z], []⟩) (fun fin s' => ∃ r, fin = .done (.ret r) ∧ Q (some r) s') (fun e s' => False) s) :
    wpAny (model P w) A (pyNext (.ref z)) Q E s := by
  unfold pyNext
  refine wpAny_bind (wpAny_attempt (wpAny_callSpecial?_slot (name := Str.ofString "__next__") hT F.slot_zip_next (wpAny_call_entry F.slot_zip_next hT F.entry_zip_next (wpAny_mono h (fun fin s' ⟨r, e, g⟩ => ?_) fun _ _ e => e.elim) (F.args_zip_next_1 _))))
  exact ⟨r, e, wpAny_pure g⟩
theorem z_stop {z : Addr} {Q : Option Value → Shared → Prop} (hT : s.TypeIs (.ref z) "zip") (h : wpAny (model P w) A.in1 (Builtin.«zip.__next__» ⟨[.ref z], []⟩) (fun fin s' => False) (fun e s' => ∃ a o, e = .ref a ∧ s'.heap.get? a = some o ∧ o.cls = .type "StopIteration" ∧ Q none s') s) :
    wpAny (model P w) A (pyNext (.ref z)) Q E s := by
  unfold pyNext
  refine wpAny_bind (wpAny_attempt (wpAny_callSpecial?_slot (name := Str.ofString "__next__") hT F.slot_zip_next (wpAny_call_entry F.slot_zip_next hT F.entry_zip_next (wpAny_mono h (fun _ _ e => e.elim) fun e s' ⟨a, o, ea, ho, hc, g⟩ => ?_) (F.args_zip_next_1 _))))
  subst ea
  refine wpAny_bind (wpAny_isInstance (T := "StopIteration") (b := true) ⟨o, ho, hc⟩ isSubtype_stop ?_)
  exact wpAny_pure g
end
end My

/-! zip(x, y) made, walked; dict(zip(x, y)) -/
namespace My
open PySem PySem.Spec PyProof.Rows L2 Evl
def itN : Bool → String
  | true => "list_iterator"
  | false => "tuple_iterator"
abbrev zA (h : Heap) (b1 : Bool) (l1 : Addr) : Heap := h.push { cls := .type (itN b1), data := .fields #[.ref l1, .int 0 0] }
abbrev zB (h : Heap) (b1 b2 : Bool) (l1 l2 : Addr) : Heap := (zA h b1 l1).push { cls := .type (itN b2), data := .fields #[.ref l2, .int 0 0] }
abbrev zC (h : Heap) (b1 b2 : Bool) (l1 l2 : Addr) : Heap := (zB h b1 b2 l1 l2).push { cls := .type "tuple", data := .seq #[.ref h.objs.size, .ref (zA h b1 l1).objs.size] }
abbrev zD (h : Heap) (b1 b2 : Bool) (l1 l2 : Addr) : Heap := (zC h b1 b2 l1 l2).push { cls := .type "tuple", data := .seq #[.none, .none] }
abbrev zE (h : Heap) (b1 b2 : Bool) (l1 l2 : Addr) : Heap := (zD h b1 b2 l1 l2).push { cls := .type "zip", data := .fields #[.none, .bool false, .bool false, .ref (zB h b1 b2 l1 l2).objs.size, .ref (zC h b1 b2 l1 l2).objs.size] }
theorem meets_zq (b1 b2 : Bool) (l1 l2 : Addr) (xs ys : Array Value) :
    Meets (Builtin.«zip.__new__» ⟨[.type "zip", .ref l1, .ref l2], []⟩) (fun _ R s => qSq b1 s.heap l1 xs ∧ qSq b2 s.heap l2 ys ∧
      R (.ok (.ret (.ref (zD s.heap b1 b2 l1 l2).objs.size))) { s with heap := zE s.heap b1 b2 l1 l2 }) :=
  .of_wp fun prog w A R s h => by
    obtain ⟨hp, g, d, tk, os⟩ := s
    obtain ⟨hl1, hl2, h⟩ := h
    have hsub := sub_zip
    cases b1 <;> cases b2
    · have a1 : Heap.IsTuple (Shared.heap ⟨hp, g, d, tk, os⟩) l1 xs := hl1
      have a2 : Heap.IsTuple (Shared.heap ⟨hp.push { cls := .type "tuple_iterator", data := .fields #[.ref l1, .int 0 0] }, g, d, tk, os⟩) l2 ys := Heap.IsTuple.push hl2 _
      wp_walk using wpAny_pyIter_tuple a1, wpAny_pyIter_tuple a2
      exact ⟨_, rfl, h⟩
    · have a1 : Heap.IsTuple (Shared.heap ⟨hp, g, d, tk, os⟩) l1 xs := hl1
      have a2 : Heap.IsList (Shared.heap ⟨hp.push { cls := .type "tuple_iterator", data := .fields #[.ref l1, .int 0 0] }, g, d, tk, os⟩) l2 ys := Heap.IsList.push hl2 _
      wp_walk using wpAny_pyIter_tuple a1, wpAny_pyIter_list a2
      exact ⟨_, rfl, h⟩
    · have a1 : Heap.IsList (Shared.heap ⟨hp, g, d, tk, os⟩) l1 xs := hl1
      have a2 : Heap.IsTuple (Shared.heap ⟨hp.push { cls := .type "list_iterator", data := .fields #[.ref l1, .int 0 0] }, g, d, tk, os⟩) l2 ys := Heap.IsTuple.push hl2 _
      wp_walk using wpAny_pyIter_list a1, wpAny_pyIter_tuple a2
      exact ⟨_, rfl, h⟩
    · have a1 : Heap.IsList (Shared.heap ⟨hp, g, d, tk, os⟩) l1 xs := hl1
      have a2 : Heap.IsList (Shared.heap ⟨hp.push { cls := .type "list_iterator", data := .fields #[.ref l1, .int 0 0] }, g, d, tk, os⟩) l2 ys := Heap.IsList.push hl2 _
      wp_walk using wpAny_pyIter_list a1, wpAny_pyIter_list a2
      exact ⟨_, rfl, h⟩
section
variable {P : Program} {w : World} {A : Around} {E : Value → Shared → Prop} {s : Shared}
theorem qIt_new {b : Bool} {h : Heap} {i l : Addr} (e : h.get? i = some { cls := .type (itN b), data := .fields #[.ref l, .int 0 0] }) : qIt b h i l 0 := by
  cases b <;> exact ⟨_, e, rfl, rfl⟩
theorem call_zq {b1 b2 : Bool} {l1 l2 : Addr} {xs ys : Array Value} {Q : Value → Shared → Prop} (hl1 : qSq b1 s.heap l1 xs) (hl2 : qSq b2 s.heap l2 ys)
    (q : ∀ h', IsZip h' (s.heap.objs.size + 4) (s.heap.objs.size + 2) (s.heap.objs.size + 3) .none → IsPair h' (s.heap.objs.size + 2) (.ref s.heap.objs.size) (.ref (s.heap.objs.size + 1)) →
      IsPair h' (s.heap.objs.size + 3) .none .none → qIt b1 h' s.heap.objs.size l1 0 → qIt b2 h' (s.heap.objs.size + 1) l2 0 → (∀ c o, s.heap.get? c = some o → h'.get? c = some o) → Q (.ref (s.heap.objs.size + 4)) { s with heap := h' }) :
    wpAny (model P w) A (call (.type "zip") [.ref l1, .ref l2]) Q E s := by
  refine callType_new F.called_zip (by decide) (F.typeCall_zip_2 _ _) (F.newCall_zip_2 _ _) (fun obj => F.args_object_init_3 obj _ _) F.entry_zip_new (meets_zq b1 b2 l1 l2 xs ys) ⟨hl1, hl2, ?_⟩
  have up : ∀ (h : Heap) (o : Obj), (h.push o).objs.size = h.objs.size + 1 := fun h o => Heap.size_push ..
  have n1 : (zA s.heap b1 l1).objs.size = s.heap.objs.size + 1 := up _ _
  have n2 : (zB s.heap b1 b2 l1 l2).objs.size = s.heap.objs.size + 2 := by rw [up, n1]
  have n3 : (zC s.heap b1 b2 l1 l2).objs.size = s.heap.objs.size + 3 := by rw [up, n2]
  have n4 : (zD s.heap b1 b2 l1 l2).objs.size = s.heap.objs.size + 4 := by rw [up, n3]
  have e5 : (zE s.heap b1 b2 l1 l2).get? (zD s.heap b1 b2 l1 l2).objs.size = some _ := Heap.get?_push_size _ rfl
  have e4 : (zE s.heap b1 b2 l1 l2).get? (zC s.heap b1 b2 l1 l2).objs.size = some _ := Heap.get?_push_of_some _ (Heap.get?_push_size _ rfl)
  have e3 : (zE s.heap b1 b2 l1 l2).get? (zB s.heap b1 b2 l1 l2).objs.size = some _ := Heap.get?_push_of_some _ (Heap.get?_push_of_some _ (Heap.get?_push_size _ rfl))
  have e2 : (zE s.heap b1 b2 l1 l2).get? (zA s.heap b1 l1).objs.size = some { cls := .type (itN b2), data := .fields #[.ref l2, .int 0 0] } := Heap.get?_push_of_some _ (Heap.get?_push_of_some _ (Heap.get?_push_of_some _ (Heap.get?_push_size _ rfl)))
  have e1 : (zE s.heap b1 b2 l1 l2).get? s.heap.objs.size = some { cls := .type (itN b1), data := .fields #[.ref l1, .int 0 0] } := Heap.get?_push_of_some _ (Heap.get?_push_of_some _ (Heap.get?_push_of_some _ (Heap.get?_push_of_some _ (Heap.get?_push_size _ rfl))))
  show _ ∧ _
  rw [n2, n3, n4] at e5
  rw [n1, n2] at e3
  rw [n3] at e4
  rw [n1] at e2
  rw [n4]
  exact ⟨⟨_, e5, rfl⟩, q _ e5 e3 e4 (qIt_new e1) (qIt_new e2) fun c o x => Heap.get?_push_of_some _ (Heap.get?_push_of_some _ (Heap.get?_push_of_some _ (Heap.get?_push_of_some _ (Heap.get?_push_of_some _ x))))⟩
end
/-- a list or a tuple, told -/
def SqB (b : Bool) (K : PySem.W.Frag) (H : Hp) (a : Addr) (xs : List V) : Prop := match b with
  | true => SqL K H a xs
  | false => SqT K H a xs
theorem SqB.to {b : Bool} {K : PySem.W.Frag} {H H' : Hp} {a : Addr} {xs : List V} (e : Ex H H') (h : SqB b K H a xs) : SqB b K H' a xs := by
  cases b
  · exact ex_t e h
  · exact ex_l e h
def Itq (K : PySem.W.Frag) (b1 b2 : Bool) (a b : Addr) : It :=
  ⟨fun i H => ∃ (xs ys : List V) (x y : V), SqB b1 K H a xs ∧ SqB b2 K H b ys ∧ xs[i]? = some x ∧ ys[i]? = some y,
    fun i H v H' => ∃ T x y, v = .ref T ∧ H T = none ∧ H' = upd H T (.tup [x, y]) ∧ (∀ xs, SqB b1 K H a xs → xs[i]? = some x) ∧ ∀ ys, SqB b2 K H b ys → ys[i]? = some y,
    fun i H => ∃ xs ys : List V, SqB b1 K H a xs ∧ SqB b2 K H b ys ∧ (xs.length ≤ i ∨ ys.length ≤ i)⟩
theorem inv_sq {X : Cx} {pins : List (Addr × Obj)} {σ : L2.St} {H : Hp} {s : Shared} {b : Bool} {a : Addr} {xs : List V} (I : Inv X pins σ H s) (h : SqB b X.K H a xs) : ∃ its : List Value, Vals xs its ∧ qSq b s.heap a its.toArray ∧ a < s.heap.objs.size := by
  cases b
  · obtain ⟨its, rv, p, _⟩ := I.tuple h
    obtain ⟨o, ho, _⟩ := id p
    exact ⟨its, rv, p, Heap.lt_size ho⟩
  · obtain ⟨its, rv, p, _⟩ := I.list h
    exact ⟨its, rv, p.isList, p.lt⟩
theorem inv_sq1 {X : Cx} {pins : List (Addr × Obj)} {σ : L2.St} {H : Hp} {s : Shared} {b : Bool} {a : Addr} {xs ys : List V} (I : Inv X pins σ H s) (h : SqB b X.K H a xs) (h' : SqB b X.K H a ys) : xs = ys := by
  cases b
  · exact I.tuple_inj h h'
  · exact I.list_inj h h'
theorem five {c z TI TO i1 i2 : Addr} (h : c ∈ [z, TI, TO, i1, i2]) : c = z ∨ c = TI ∨ c = TO ∨ c = i1 ∨ c = i2 := by simpa using h
theorem turn_zq {P : Program} {w : World} {K : PySem.W.Frag} {elts : List Expr} {kk : Nat} {tpos : Pos} {b1 b2 : Bool} {a b z TI TO i1 i2 : Addr} (D : ZipApart z TI TO i1 i2 a b) :
    Turn P w K (.Tuple elts kk tpos) (Itq K b1 b2 a b) [z, TI, TO, i1, i2] z (fun i h => IsZip h z TI TO .none ∧ IsPair h TI (.ref i1) (.ref i2) ∧ (∃ x y, IsPair h TO x y) ∧ qIt b1 h i1 a i ∧ qIt b2 h i2 b i) where
  mem := by simp
  obj := fun i h st c hc => by
    obtain ⟨hz, hTI, ⟨x, y, hTO⟩, h1, h2⟩ := st
    rcases five hc with rfl | rfl | rfl | rfl | rfl
    · exact ⟨_, hz, fun v q => nomatch q⟩
    · exact ⟨_, hTI, fun v q => nomatch q⟩
    · exact ⟨_, hTO, fun v q => nomatch q⟩
    · exact h1.obj
    · exact h2.obj
  keep := fun i h h' st k => by
    obtain ⟨hz, hTI, ⟨x, y, hTO⟩, h1, h2⟩ := st
    exact ⟨k z (by simp) _ hz, k TI (by simp) _ hTI, ⟨x, y, k TO (by simp) _ hTO⟩, h1.to fun o q => k i1 (by simp) o q, h2.to fun o q => k i2 (by simp) o q⟩
  item := by
    intro X hP hw hK hc i pins s σ H E I hf st hg
    subst hP hw hK
    obtain ⟨hz, hTI, ⟨x0, y0, hTO⟩, h1, h2⟩ := st
    obtain ⟨xs, ys, x, y, hqx, hqy, hx, hy⟩ := hg
    obtain ⟨its, rv, p, _⟩ := inv_sq I hqx
    obtain ⟨its2, rv2, p2, _⟩ := inv_sq I hqy
    obtain ⟨u, hu, ru⟩ := rv.get hx
    obtain ⟨u2, hu2, ru2⟩ := rv2.get hy
    have zl : z < s.heap.objs.size := Heap.lt_size hz
    refine z_next ⟨_, hz, rfl⟩ (zq_item D hz hTI hTO h1 h2 p p2 (x := u) (y := u2) (by simpa using hu) (by simpa using hu2) fun h' z' TO' h1' h2' hT hsz hk => ?_)
    refine ⟨_, rfl, wpAny_letOwnedTupleGo_zip (s := { s with heap := h' }) z' fun h'' z'' sb => ?_⟩
    have hT2 : h''.get? s.heap.objs.size = some { cls := .type "tuple", data := .seq #[u, u2] } := (sb.2 _ (Nat.ne_of_gt zl)).trans hT
    have new : ObjOk X.prog X.w (upd H s.heap.objs.size (.tup [x, y])) h'' s.heap.objs.size (.tup [x, y]) := ⟨by show 2 ≤ sizeLine; decide, [u, u2], .cons ru (.cons ru2 .nil), ⟨_, hT2, rfl, _, rfl⟩⟩
    have I1 : Inv X pins σ (upd H s.heap.objs.size (.tup [x, y])) { s with heap := h'' } :=
      I.turnedNew (t' := s.toks) (ch := [z, TI, TO, i1, i2]) (fun c o hb q => (sb.2 c (fun q' => hb (by simp [q']))).trans (hk c o (fun q' => hb (by simp [q'])) (fun q' => hb (by simp [q'])) (fun q' => hb (by simp [q'])) (fun q' => hb (by simp [q'])) q)) hf (Nat.le_refl _) new
    refine ⟨.ref s.heap.objs.size, _, I1, rfl, ⟨_, x, y, rfl, I.hok.fresh (Nat.le_refl _), rfl, fun l hl => by rw [inv_sq1 I hl hqx]; exact hx, fun l hl => by rw [inv_sq1 I hl hqy]; exact hy⟩, ⟨z'', ?_, ⟨u, u2, ?_⟩, ?_, ?_⟩, fun c hcm => ?_⟩
    · exact (sb.2 _ D.TIz).trans (hk _ _ D.TIz D.TITO D.TIi1 D.TIi2 hTI)
    · exact (sb.2 _ D.TOz).trans TO'
    · exact h1'.to fun o q => (sb.2 _ D.i1z).trans q
    · exact h2'.to fun o q => (sb.2 _ D.i2z).trans q
    · have lt : c < s.heap.objs.size := by
        rcases five hcm with rfl | rfl | rfl | rfl | rfl
        · exact zl
        · exact Heap.lt_size hTI
        · exact Heap.lt_size hTO
        · obtain ⟨_, e1, _⟩ := h1.obj; exact Heap.lt_size e1
        · obtain ⟨_, e2, _⟩ := h2.obj; exact Heap.lt_size e2
      rw [upd_ne (Nat.ne_of_lt lt)]
      exact (hf c hcm).1
  done := by
    intro X hP hw hK hc i pins s σ H E I hf st hg
    subst hP hw hK
    obtain ⟨hz, hTI, ⟨x0, y0, hTO⟩, h1, h2⟩ := st
    obtain ⟨xs, ys, hqx, hqy, hend⟩ := hg
    obtain ⟨its, rv, p, _⟩ := inv_sq I hqx
    obtain ⟨its2, rv2, p2, _⟩ := inv_sq I hqy
    have l1 := rv.length
    have l2 := rv2.length
    have he : its.toArray[i]? = none ∨ its2.toArray[i]? = none := hend.imp (fun q => by simp; omega) fun q => by simp; omega
    exact z_stop ⟨_, hz, rfl⟩ (zq_end (I.ok.hd hc) D hz hTI hTO h1 h2 p p2 he fun h' e hk ⟨o, ho, hc2⟩ => ⟨e, o, rfl, ho, hc2, rfl, I.turnedL (t' := s.toks) (ch := [z, TI, TO, i1, i2]) (fun c o hb q =>
      hk c o (fun q' => hb (by simp [q'])) (fun q' => hb (by simp [q'])) (fun q' => hb (by simp [q'])) (fun q' => hb (by simp [q'])) q) hf⟩)
  self := fun A i s Q E st h => wpAny_pyIter_zip st.1 h
def iZq (K : PySem.W.Frag) (ta : TA) : TI := fun σ H R => ta σ H fun vs H1 => ∃ b1 b2 a b xs ys, vs = [.ref a, .ref b] ∧ SqB b1 K H1 a xs ∧ SqB b2 K H1 b ys ∧ R (Itq K b1 b2 a b) H1
theorem pi_zq {X : Cx} {K : PySem.W.Frag} {e e2 : Expr} {ta : TA} {p pos tpos : Pos} {elts : List Expr} {kk : Nat} (hm : X.mg "zip" = none) (ha : PA X [e, e2] ta) (hK : X.K = K := by rfl) (hg : Gl X "zip" := by rfl)
    (hs : starEach [e, e2] X.env = (false, eval e X.env) :: starEach [e2] X.env := by rfl) (hpl : (backTo pos (starEach [e2] X.env)).any (·.1) = false := by rfl) :
    PI X (.Tuple elts kk tpos) (.Call (.Name "zip" p) [e, e2] [] pos) (iZq K ta) := by
  subst hK
  refine ⟨fun pins s σ H R I h => ?_⟩
  refine Call_ (ld_blt I hg hm PyProof.Rows.boot_zip (PyProof.Rows.callWith_type1 (thn (ha.run pos pins s σ H _ I h) fun us s1 ⟨vs, H1, I1, r1, q1⟩ => ?_) hs hpl))
  obtain ⟨b1, b2, a, b, xs, ys, rfl, hqx, hqy, q⟩ := q1
  cases r1 with
  | cons r rr =>
    cases rr with
    | cons r' rr =>
      cases rr
      cases r
      cases r'
      obtain ⟨its, rv, p1, la⟩ := inv_sq I1 hqx
      obtain ⟨its2, rv2, p2, lb⟩ := inv_sq I1 hqy
      refine call_zq p1 p2 fun h' hz hTI hTO h1 h2 hk => wpAny_pyIter_zip hz ?_
      have I2 : Inv X pins σ H1 { s1 with heap := h' } := I1.kept (t' := s1.toks) hk
      refine ⟨s1.heap.objs.size + 4, [s1.heap.objs.size + 4, s1.heap.objs.size + 2, s1.heap.objs.size + 3, s1.heap.objs.size, s1.heap.objs.size + 1], _, _, H1, rfl, I2, turn_zq (PySem.W.ktu_apart s1.heap.objs.size a b la lb), ⟨hz, hTI, ⟨_, _, hTO⟩, h1, h2⟩, fun c hcm => ?_, q⟩
      have hle : s1.heap.objs.size ≤ c := by
        rcases five hcm with rfl | rfl | rfl | rfl | rfl <;> omega
      exact I1.fpOk hle (I1.hok.fresh hle)
theorem src_zq {K : PySem.W.Frag} {Hb : Hp} {b1 b2 : Bool} {a b : Addr} {xs ys : List V} (h1 : SqB b1 K Hb a xs) (h2 : SqB b2 K Hb b ys) : Src (Itq K b1 b2 a b) Hb (min xs.length ys.length) (fun i v H => ∃ T x y, v = .ref T ∧ H T = some (.tup [x, y]) ∧ xs[i]? = some x ∧ ys[i]? = some y) :=
  ⟨fun i H2 e hi => ⟨xs, ys, xs[i]'(by omega), ys[i]'(by omega), h1.to e, h2.to e, List.getElem?_eq_getElem _, List.getElem?_eq_getElem _⟩,
    fun i H2 e hi => ⟨xs, ys, h1.to e, h2.to e, by omega⟩, fun i H2 v H3 e _ y => by
    obtain ⟨T, x, z, rfl, np, rfl, q1, q2⟩ := y
    exact ⟨Ex.new np, T, x, z, rfl, upd_same, q1 _ (h1.to e), q2 _ (h2.to e)⟩⟩
end My

/-! dict(zip(x, y)) -/
namespace My
open PySem PySem.Spec PyProof.Rows L2 Evl
theorem four {c z TO i1 i2 : Addr} (h : ¬ c ∈ [z, TO, i1, i2]) : c ≠ z ∧ c ≠ TO ∧ c ≠ i1 ∧ c ≠ i2 := by simpa using h
section
variable {P : Program} {w : World}
theorem pairs_zq (b1 b2 : Bool) (z TI TO i1 i2 l1 l2 : Addr) (D : ZipApart z TI TO i1 i2 l1 l2) (xs ys : Array Value) :
    PairArg P w "zip" z [z, TI, TO, i1, i2, l1, l2] [z, TO, i1, i2] (min xs.size ys.size) (fun i k v => xs[i]? = some k ∧ ys[i]? = some v)
      (fun h => IsZip h z TI TO .none ∧ IsPair h TI (.ref i1) (.ref i2) ∧ (∃ a b, IsPair h TO a b) ∧ qIt b1 h i1 l1 0 ∧ qIt b2 h i2 l2 0 ∧ qSq b1 h l1 xs ∧ qSq b2 h l2 ys) where
  type := fun s ok => ⟨_, ok.1, rfl⟩
  notDict := by decide
  keep := fun h h' ok hk => by
    obtain ⟨hz, hTI, ⟨a, b, hTO⟩, h1, h2, g1, g2⟩ := ok
    exact ⟨hk _ _ hz, hk _ _ hTI, ⟨a, b, hk _ _ hTO⟩, h1.to fun o e => hk _ o e, h2.to fun o e => hk _ o e, g1.to fun o e => hk _ o e, g2.to fun o e => hk _ o e⟩
  there := fun h ok b hb => by
    obtain ⟨hz, hTI, ⟨a, c, hTO⟩, h1, h2, g1, g2⟩ := ok
    obtain ⟨o1, e1, _⟩ := h1.obj
    obtain ⟨o2, e2, _⟩ := h2.obj
    simp only [List.mem_cons, List.not_mem_nil, or_false] at hb
    rcases hb with rfl | rfl | rfl | rfl | rfl | rfl | rfl
    · exact ⟨_, hz⟩
    · exact ⟨_, hTI⟩
    · exact ⟨_, hTO⟩
    · exact ⟨_, e1⟩
    · exact ⟨_, e2⟩
    · exact g1.obj
    · exact g2.obj
  sub := fun b hb => by simp at hb ⊢; rcases hb with rfl | rfl | rfl | rfl <;> simp
  noKeys := fun A s Q E hA ok h => getAttrOr_miss_zip ok.1 rfl rfl rfl zip_no_keys (by decide +kernel) hA h
  iter := fun A s d Q E hA ok hd hdf h => by
    obtain ⟨hz, hTI, ⟨a, b, hTO⟩, h1, h2, g1, g2⟩ := ok
    simp only [List.mem_cons, List.not_mem_nil, or_false, not_or] at hdf
    obtain ⟨dz, dTI, dTO, di1, di2, dl1, dl2⟩ := hdf
    refine wpAny_pyIter_zip hz (h z [z, TO, i1, i2] (fun i h => IsPair h TI (.ref i1) (.ref i2) ∧ qIt b1 h i1 l1 i ∧ qIt b2 h i2 l2 i ∧ qSq b1 h l1 xs ∧ qSq b2 h l2 ys ∧
      ((IsZip h z TI TO .none ∧ ∃ a b, IsPair h TO a b) ∨ ∃ T f oT, IsZipHeld h z TI TO T f ∧ h.get? T = some oT ∧ T ≠ z ∧ T ≠ i1 ∧ T ≠ i2 ∧ T ≠ d)) s.heap s.toks ?_
      ⟨hTI, h1, h2, g1, g2, .inl ⟨hz, a, b, hTO⟩⟩ (fun _ _ e => e) fun b hb => .inl hb)
    exact {
      off := fun hm => by
        simp only [List.mem_cons, List.not_mem_nil, or_false] at hm
        rcases hm with e | e | e | e
        · exact dz e
        · exact dTO e
        · exact di1 e
        · exact di2 e
      frame := fun i ha hb st hk => by
        obtain ⟨hTI, h1, h2, g1, g2, hz⟩ := st
        refine ⟨hk _ _ (Ne.symm dTI) hTI, h1.to fun o e => hk _ o (Ne.symm di1) e, h2.to fun o e => hk _ o (Ne.symm di2) e, g1.to fun o e => hk _ o (Ne.symm dl1) e, g2.to fun o e => hk _ o (Ne.symm dl2) e, ?_⟩
        rcases hz with ⟨hz, a, b, hTO⟩ | ⟨T, f, oT, hz, hT, r1, r2, r3, r4⟩
        · exact .inl ⟨hk _ _ (Ne.symm dz) hz, a, b, hk _ _ (Ne.symm dTO) hTO⟩
        · exact .inr ⟨T, f, oT, hk _ _ (Ne.symm dz) hz, hk _ _ r4 hT, r1, r2, r3, r4⟩
      item := fun i s1 Q1 E1 hi st hds hQ => by
        obtain ⟨hTI, h1, h2, g1, g2, hz⟩ := st
        have ex := Array.getElem?_eq_getElem (show i < xs.size by omega)
        have ey := Array.getElem?_eq_getElem (show i < ys.size by omega)
        have lt : ∀ {c o}, s1.heap.get? c = some o → s1.heap.objs.size ≠ c := fun e => Nat.ne_of_gt (Heap.lt_size e)
        have n1 : s1.heap.objs.size ≠ i1 := let ⟨_, e, _⟩ := h1.obj; lt e
        have n2 : s1.heap.objs.size ≠ i2 := let ⟨_, e, _⟩ := h2.obj; lt e
        rcases hz with ⟨hz, a, b, hTO⟩ | ⟨T, f, oT, hz, hT, r1, r2, r3, r4⟩
        · refine z_next ⟨_, hz, rfl⟩ (zq_item D hz hTI hTO h1 h2 g1 g2 ex ey fun h' a1 a2 a3 a4 a5 a6 hk => ?_)
          exact hQ s1.heap.objs.size _ _ h' s1.toks ⟨ex, ey⟩ (.inl ⟨_, a5, rfl, _, rfl⟩)
            ⟨hk _ _ D.TIz D.TITO D.TIi1 D.TIi2 hTI, a3, a4, g1.to fun o e => hk _ o D.l1z D.l1TO D.l1i1 D.l1i2 e, g2.to fun o e => hk _ o D.l2z D.l2TO D.l2i1 D.l2i2 e,
              .inr ⟨s1.heap.objs.size, false, _, a1, a5, lt hz, n1, n2, Nat.ne_of_gt hds⟩⟩
            fun c o hc e => let ⟨m1, m2, m3, m4⟩ := four hc; hk c o m1 m2 m3 m4 e
        · refine z_next ⟨_, hz, rfl⟩ (zq_itemH D hz hT hTI h1 h2 g1 g2 ex ey fun h' a1 a3 a4 a5 a6 hk => ?_)
          exact hQ s1.heap.objs.size _ _ h' s1.toks ⟨ex, ey⟩ (.inl ⟨_, a5, rfl, _, rfl⟩)
            ⟨hk _ _ D.TIz D.TIi1 D.TIi2 hTI, a3, a4, g1.to fun o e => hk _ o D.l1z D.l1i1 D.l1i2 e, g2.to fun o e => hk _ o D.l2z D.l2i1 D.l2i2 e,
              .inr ⟨T, true, oT, a1, hk _ _ r1 r2 r3 hT, r1, r2, r3, r4⟩⟩
            fun c o hc e => let ⟨m1, m2, m3, m4⟩ := four hc; hk c o m1 m3 m4 e
      done := fun s1 Q1 E1 st hQ => by
        obtain ⟨hTI, h1, h2, g1, g2, hz⟩ := st
        have hend : xs[min xs.size ys.size]? = none ∨ ys[min xs.size ys.size]? = none := by
          rcases Nat.le_total xs.size ys.size with h | h
          · exact .inl (Array.getElem?_eq_none (by omega))
          · exact .inr (Array.getElem?_eq_none (by omega))
        rcases hz with ⟨hz, a, b, hTO⟩ | ⟨T, f, oT, hz, hT, r1, r2, r3, r4⟩
        · exact z_stop ⟨_, hz, rfl⟩ (zq_end hA D hz hTI hTO h1 h2 g1 g2 hend fun h' e hk ⟨o, ho, hc⟩ => ⟨e, o, rfl, ho, hc, hQ h' s1.toks fun c o hc e => let ⟨m1, m2, m3, m4⟩ := four hc; hk c o m1 m2 m3 m4 e⟩)
        · exact z_stop ⟨_, hz, rfl⟩ (zq_endH hA D hz hT hTI h1 h2 g1 g2 hend fun h' e hk ⟨o, ho, hc⟩ => ⟨e, o, rfl, ho, hc, hQ h' s1.toks fun c o hc e => let ⟨m1, m2, m3, m4⟩ := four hc; hk c o m1 m3 m4 e⟩) }
end
/-- texts by values -/
def tDz (K : PySem.W.Frag) (ta : TA) : TE := fun σ H Q => ta σ H fun vs H1 => ∃ (b1 b2 : Bool) (a b : Addr) (ks : List Str) (ys : List V), vs = [.ref a, .ref b] ∧ SqB b1 K H1 a (ks.map V.str) ∧ SqB b2 K H1 b ys ∧ ks.length = ys.length ∧ ks.length ≤ 100000 ∧
  ∀ p, H1 p = none → Q (.ref p) (upd H1 p (.dK (mergeK [] ((ks.zip ys).map fun kv => (Sum.inr kv.1, kv.2)))))
theorem kv_zip : ∀ {ks : List Str} {ys : List V} {us : List Value}, Vals ys us → KV ((ks.zip ys).map fun kv => ((Sum.inr kv.1 : Key), kv.2)) ((ks.zip us).map fun kv => ((Sum.inr kv.1 : Key), kv.2))
  | [], _, _, _ => .nil
  | _ :: _, _, _, .nil => .nil
  | _ :: _, _, _, .cons r t => .cons ⟨rfl, r⟩ (kv_zip t)
section
variable {X : Cx} {K : PySem.W.Frag}
theorem pe_dzip {e e2 : Expr} {ta : TA} {p p2 pos q : Pos} (hc : X.calm = true) (hmd : X.mg "dict" = none) (hm : X.mg "zip" = none) (ha : PA X [e, e2] ta) (hK : X.K = K := by rfl) (hgd : Gl X "dict" := by rfl) (hg : Gl X "zip" := by rfl)
    (hs : starEach [e, e2] X.env = (false, eval e X.env) :: starEach [e2] X.env := by rfl) (hpl : (backTo q (starEach [e2] X.env)).any (·.1) = false := by rfl) (hb : bootBuiltins "dict" = some (.type "dict") := by decide +kernel)
    (na : starEach [(.Call (.Name "zip" p2) [e, e2] [] q : Expr)] X.env = (false, eval (.Call (.Name "zip" p2) [e, e2] [] q) X.env) :: starEach [] X.env := by rfl) :
    PE X (.Call (.Name "dict" p) [.Call (.Name "zip" p2) [e, e2] [] q] [] pos) (tDz K ta) := by
  subst hK
  refine ⟨fun pins s σ H Q I h => ?_⟩
  refine Call_ (ld_blt I hgd hmd hb ?_)
  refine PyProof.Rows.callWith_type1 (PyProof.Rows.args_cons ?_ na) na rfl
  refine Call_ (ld_blt I hg hm PyProof.Rows.boot_zip (PyProof.Rows.callWith_type1 (thn (ha.run q pins s σ H _ I h) fun us s1 ⟨vs, H1, I1, r1, q1⟩ => ?_) hs hpl))
  obtain ⟨b1, b2, a, b, ks, ys, rfl, hqx, hqy, hl, hf, q1⟩ := q1
  cases r1 with
  | cons r rr =>
    cases rr with
    | cons r' rr =>
      cases rr
      cases r
      cases r'
      obtain ⟨its, rv, p1, la⟩ := inv_sq I1 hqx
      obtain ⟨its2, rv2, p2, lb⟩ := inv_sq I1 hqy
      have l1 := rv.length
      have l2 := rv2.length
      rw [List.length_map] at l1
      refine call_zq p1 p2 fun h' hz hTI hTO h1 h2 hk => PyProof.Rows.args_nil ?_
      have big : 100000 ≤ sizeLine := by decide
      have D := PySem.W.ktu_apart s1.heap.objs.size a b la lb
      have I2 : Inv X pins σ H1 { s1 with heap := h' } := I1.kept (t' := s1.toks) hk
      refine call_dict_pairs (s := { s1 with heap := h' }) (knd := mixKind X.prog X.w) (kvs := (ks.zip its2).map fun kv => (Sum.inr kv.1, kv.2)) (pairs_zq b1 b2 _ _ _ _ _ a b D its.toArray its2.toArray) (I1.ok.hd hc) ⟨hz, hTI, ⟨_, _, hTO⟩, h1, h2, p1.to fun o e => hk _ o e, p2.to fun o e => hk _ o e⟩ ?_ ?_ fun h2' tk hd hk2 => ?_
      · refine ⟨by simp; omega, fun i key v ⟨hk1, hv1⟩ => ?_⟩
        rw [List.getElem?_toArray] at hk1 hv1
        have hi : i < ks.length := by
          have := (List.getElem?_eq_some_iff.mp hk1).1
          omega
        obtain ⟨u, hu, ru⟩ := rv.get (show (ks.map V.str)[i]? = some (V.str ks[i]) by rw [List.getElem?_map, List.getElem?_eq_getElem hi]; rfl)
        rw [hk1] at hu
        cases hu
        obtain ⟨t, rfl⟩ := ru
        refine ⟨Sum.inr ks[i], ?_, ?_⟩
        · rw [List.getElem?_map, List.getElem?_zip_eq_some (z := (ks[i], v)) |>.mpr ⟨List.getElem?_eq_getElem hi, hv1⟩]
          rfl
        · exact strKind_is X.prog X.w ks[i] t
      · simp
        omega
      · have hlt : s1.heap.objs.size + 4 < h'.objs.size := Heap.lt_size hz
        have off : ∀ (c : Addr) (o : Obj), s1.heap.get? c = some o → ¬ c ∈ [s1.heap.objs.size + 4, s1.heap.objs.size + 3, s1.heap.objs.size, s1.heap.objs.size + 1] := fun c o e m => by
          have lt : c < s1.heap.objs.size := Heap.lt_size e
          simp only [List.mem_cons, List.not_mem_nil, or_false] at m
          rcases m with m | m | m | m <;> rw [m] at lt <;> exact absurd lt (by simp)
        have hm : (h'.objs.size == sysModules) = false := beq_eq_false_iff_ne.mpr (Nat.ne_of_gt (Nat.lt_of_lt_of_le I1.big (by omega)))
        have hlen : (mergeK [] ((ks.zip ys).map fun kv => ((Sum.inr kv.1 : Key), kv.2))).length ≤ sizeLine := by
          refine Nat.le_trans (length_mergeK _ []) ?_
          rw [List.length_nil, Nat.zero_add, List.length_map, List.length_zip]
          omega
        exact ⟨.ref h'.objs.size, upd H1 h'.objs.size (.dK (mergeK [] ((ks.zip ys).map fun kv => (Sum.inr kv.1, kv.2)))), I1.laid (t' := tk) (fun c o e => hk2 c o (off c o e) (hk c o e)) (by omega) (show ObjOk X.prog X.w _ _ _ (.dK _) from ⟨hlen, hm, merged [] _, KV.merge (kv_zip rv2) .nil, hd⟩), rfl, q1 _ (I1.hok.fresh (by omega))⟩
end
end My

/-! counts of windows that balance; a closed walk with them -/
namespace My
open PySem PySem.Spec PyProof.Rows L2 Evl
/-- what stands by a key, added up -/
def sumK (ws : List Str) (k : Str → Str) (c : Str → Nat) (p : Str) : Nat := ((ws.filter fun x => decide (k x = p)).map c).sum
def outC (ws : List Str) (c : Str → Nat) (p : Str) : Nat := sumK ws begS c p
def inC (ws : List Str) (c : Str → Nat) (p : Str) : Nat := sumK ws endS c p
def Bal (ws : List Str) (c : Str → Nat) : Prop := ∀ p, outC ws c p = inC ws c p
def heldL (ws : List Str) (c : Str → Nat) : List Str := ws.filter fun x => decide (0 < c x)
section
variable {ws : List Str} {k : Str → Str} {c d : Str → Nat} {p x w : Str}
theorem held_mem : x ∈ heldL ws c ↔ x ∈ ws ∧ 0 < c x := by
  unfold heldL
  rw [List.mem_filter, decide_eq_true_iff]
theorem sum_add (l : List Str) : (l.map fun x => c x + d x).sum = (l.map c).sum + (l.map d).sum := by
  induction l with
  | nil => rfl
  | cons x l ih => rw [List.map_cons, List.map_cons, List.map_cons, List.sum_cons, List.sum_cons, List.sum_cons, ih]; omega
theorem sumK_add : sumK ws k (fun x => c x + d x) p = sumK ws k c p + sumK ws k d p := sum_add _
theorem sumK_congr (h : ∀ x ∈ ws, c x = d x) : sumK ws k c p = sumK ws k d p := by
  unfold sumK
  rw [List.map_congr_left fun x hx => h x (List.mem_filter.mp hx).1]
theorem sum_pos {l : List Str} (h : 0 < (l.map c).sum) : ∃ x ∈ l, 0 < c x := by
  induction l with
  | nil => exact absurd h (by show ¬ 0 < 0; omega)
  | cons x l ih =>
    rw [List.map_cons, List.sum_cons] at h
    by_cases hx : 0 < c x
    · exact ⟨x, List.mem_cons_self .., hx⟩
    · obtain ⟨y, hy, e⟩ := ih (by omega)
      exact ⟨y, List.mem_cons_of_mem _ hy, e⟩
theorem sum_ge {l : List Str} (h : x ∈ l) : c x ≤ (l.map c).sum := by
  induction l with
  | nil => exact absurd h List.not_mem_nil
  | cons y l ih =>
    rw [List.map_cons, List.sum_cons]
    rcases List.mem_cons.mp h with rfl | h
    · omega
    · have := ih h
      omega
theorem sumK_pos : 0 < sumK ws k c p ↔ ∃ x ∈ ws, k x = p ∧ 0 < c x := by
  constructor
  · intro h
    obtain ⟨x, hx, e⟩ := sum_pos h
    obtain ⟨h1, h2⟩ := List.mem_filter.mp hx
    exact ⟨x, h1, of_decide_eq_true h2, e⟩
  · rintro ⟨x, h1, h2, h3⟩
    exact Nat.lt_of_lt_of_le h3 (sum_ge (List.mem_filter.mpr ⟨h1, decide_eq_true h2⟩))
theorem sumK_zero : sumK ws k c p = 0 ↔ ∀ x ∈ ws, k x = p → c x = 0 := by
  constructor
  · intro h x hx e
    by_cases h0 : c x = 0
    · exact h0
    · have := (sumK_pos (ws := ws) (k := k) (c := c) (p := p)).mpr ⟨x, hx, e, by omega⟩
      omega
  · intro h
    by_cases h0 : sumK ws k c p = 0
    · exact h0
    · obtain ⟨x, hx, e, h1⟩ := (sumK_pos (ws := ws) (k := k) (c := c) (p := p)).mp (by omega)
      have := h x hx e
      omega
theorem sum_one : ∀ {l : List Str}, l.Nodup → w ∈ l → (l.map fun x => if x = w then 1 else 0).sum = 1
  | y :: l, nd, h => by
    obtain ⟨n1, n2⟩ := List.nodup_cons.mp nd
    rw [List.map_cons, List.sum_cons]
    by_cases e : y = w
    · subst e
      rw [if_pos rfl]
      have z : ∀ {l : List Str}, y ∉ l → (l.map fun x => if x = y then 1 else 0).sum = 0 := by
        intro l hl
        induction l with
        | nil => rfl
        | cons x l ih =>
          rw [List.map_cons, List.sum_cons, if_neg (fun e : x = y => hl (e ▸ List.mem_cons_self ..)), ih fun h => hl (List.mem_cons_of_mem _ h)]
      rw [z n1]
    · rw [if_neg e, sum_one n2 ((List.mem_cons.mp h).resolve_left fun q => e q.symm)]
theorem sumK_one (nd : ws.Nodup) (hw : w ∈ ws) : sumK ws k (fun x => if x = w then 1 else 0) p = if k w = p then 1 else 0 := by
  by_cases h : k w = p
  · rw [if_pos h]
    exact sum_one (nd.filter _) (List.mem_filter.mpr ⟨hw, decide_eq_true h⟩)
  · rw [if_neg h, sumK_zero]
    intro x hx e
    rw [if_neg (fun q : x = w => h (q ▸ e))]
theorem sumK_snoc {ws : List Str} {z : Str} : sumK (ws ++ [z]) k c p = sumK ws k c p + if k z = p then c z else 0 := by
  unfold sumK
  rw [List.filter_append]
  by_cases h : k z = p
  · rw [if_pos h, List.filter_cons_of_pos (p := fun x => decide (k x = p)) (decide_eq_true h), List.map_append, List.sum_append]
    simp
  · rw [if_neg h, List.filter_cons_of_neg (p := fun x => decide (k x = p)) (by simp [h]), List.map_append, List.sum_append]
    simp
theorem sumK_mul (m : Nat) : sumK ws k (fun x => m * c x) p = m * sumK ws k c p := by
  unfold sumK
  generalize ws.filter (fun x => decide (k x = p)) = l
  induction l with
  | nil => rfl
  | cons x l ih => rw [List.map_cons, List.map_cons, List.sum_cons, List.sum_cons, ih, Nat.mul_add]
theorem Bal.add (h1 : Bal ws c) (h2 : Bal ws d) : Bal ws fun x => c x + d x := fun p => by
  have a := h1 p
  have b := h2 p
  unfold outC inC at *
  rw [sumK_add, sumK_add, a, b]
theorem Bal.mul (m : Nat) (h : Bal ws c) : Bal ws fun x => m * c x := fun p => by
  have a := h p
  unfold outC inC at *
  rw [sumK_mul, sumK_mul, a]
theorem Bal.zero : Bal ws fun _ => 0 := fun p => by
  unfold outC inC
  rw [sumK_zero.mpr fun _ _ _ => rfl, sumK_zero.mpr fun _ _ _ => rfl]
theorem Bal.congr (h : ∀ x ∈ ws, c x = d x) (b : Bal ws c) : Bal ws d := fun p => by
  have := b p
  unfold outC inC at *
  rw [← sumK_congr h, ← sumK_congr h]
  exact this
end
/-! ### walks -/
theorem count_snoc (r : List Str) (w x : Str) : (r ++ [w]).count x = r.count x + if x = w then 1 else 0 := by
  rw [List.count_append, List.count_singleton]
  congr 1
  by_cases h : x = w
  · subst h
    simp
  · rw [if_neg h, if_neg]
    simp
    exact fun e => h e.symm
section
variable {ws : List Str} {c : Str → Nat} {p : Str}
theorem path_flow (nd : ws.Nodup) (p : Str) : ∀ {r : List Str} {s e : Str}, Path ws s r e → outC ws (r.count ·) p + (if e = p then 1 else 0) = inC ws (r.count ·) p + (if s = p then 1 else 0)
  | [], s, e, h => by
    obtain rfl : s = e := h
    unfold outC inC
    rw [sumK_zero.mpr fun x _ _ => List.count_nil, sumK_zero.mpr fun x _ _ => List.count_nil]
  | w :: r, s, e, h => by
    obtain ⟨hb, hw, hr⟩ : begS w = s ∧ w ∈ ws ∧ Path ws (endS w) r e := by
      have := h
      unfold Path at this
      first | exact this | exact ⟨this.2.1, this.1, this.2.2⟩ | exact ⟨this.1, this.2.1, this.2.2⟩
    have ih := path_flow nd p hr
    have e1 : ∀ x : Str, (w :: r).count x = r.count x + if x = w then 1 else 0 := fun x => by
      rw [List.count_cons]
      congr 1
      by_cases h : x = w
      · subst h
        simp
      · rw [if_neg h, if_neg]
        simp
        exact fun e => h e.symm
    have a1 : ∀ k, sumK ws k ((w :: r).count ·) p = sumK ws k (r.count ·) p + if k w = p then 1 else 0 := fun k => by
      rw [← sumK_one (k := k) nd hw, ← sumK_add]
      exact sumK_congr fun x _ => e1 x
    unfold outC inC at *
    rw [a1, a1, hb]
    omega
theorem cl_bal (nd : ws.Nodup) {r : List Str} {s : Str} (h : Path ws s r s) : Bal ws (r.count ·) := fun p => by
  have := path_flow nd p h
  omega
end
/-- a closed walk that takes each window as often as is told -/
structure Eu (ws : List Str) (c : Str → Nat) (r : List Str) : Prop where
  cl : Cl ws r
  all : ∀ x ∈ ws, r.count x = c x
/-- a walk under way: lf is left, r on the way from st to here, f come back with -/
structure Hz (ws : List Str) (c : Str → Nat) (st : Str) (lf : Str → Nat) (r f : List Str) (here m : Str) : Prop where
  path : Path ws st r here
  back : Path ws m f.reverse st
  sum : ∀ x ∈ ws, lf x + r.count x + f.count x = c x
  flow : ∀ p, outC ws lf p + (if m = p then 1 else 0) = inC ws lf p + (if here = p then 1 else 0)
  dead : ∀ w ∈ f, outC ws lf (endS w) = 0
section
variable {ws : List Str} {c lf : Str → Nat} {st here m : Str} {r f : List Str}
theorem Hz.start (b : Bal ws c) : Hz ws c st c [] [] st st := ⟨rfl, rfl, fun x _ => by simp, fun p => by rw [b p], fun w h => (List.not_mem_nil h).elim⟩
theorem Hz.push (Z : Hz ws c st lf r f here m) (nd : ws.Nodup) {w : Str} (hw : w ∈ ws) (hb : begS w = here) (hp : 0 < lf w) : Hz ws c st (fun x => if x = w then lf w - 1 else lf x) (r ++ [w]) f (endS w) m := by
  have e0 : ∀ x, lf x = (if x = w then lf w - 1 else lf x) + if x = w then 1 else 0 := fun x => by
    by_cases h : x = w
    · rw [if_pos h, if_pos h, h]
      omega
    · rw [if_neg h, if_neg h]
      omega
  have a1 : ∀ k p, sumK ws k lf p = sumK ws k (fun x => if x = w then lf w - 1 else lf x) p + if k w = p then 1 else 0 := fun k p => by
    rw [← sumK_one (k := k) nd hw, ← sumK_add]
    exact sumK_congr fun x _ => e0 x
  refine ⟨path_snoc.mpr ⟨by rw [hb]; exact Z.path, hw, rfl⟩, Z.back, fun x hx => ?_, fun p => ?_, fun v hv => ?_⟩
  · have := Z.sum x hx
    have := e0 x
    rw [count_snoc]
    omega
  · have := Z.flow p
    have b1 := a1 begS p
    have b2 := a1 endS p
    unfold outC inC at *
    rw [hb] at b1
    omega
  · have := Z.dead v hv
    have b1 := a1 begS (endS v)
    unfold outC at *
    omega
theorem Hz.stuck (Z : Hz ws c st lf r f here m) (h0 : outC ws lf here = 0) : here = m := by
  have := Z.flow here
  rw [if_pos rfl, h0] at this
  by_cases h : m = here
  · exact h.symm
  · rw [if_neg h] at this
    omega
theorem Hz.pop {w : Str} (Z : Hz ws c st lf (r ++ [w]) f here m) (h0 : outC ws lf here = 0) : Hz ws c st lf r (f ++ [w]) (begS w) (begS w) := by
  have hm := Z.stuck h0
  obtain ⟨h1, h2, h3⟩ := path_snoc.mp Z.path
  refine ⟨h1, ?_, fun x hx => ?_, fun p => ?_, fun v hv => ?_⟩
  · rw [List.reverse_append]
    have b := Z.back
    rw [← hm, ← h3] at b
    first | exact ⟨rfl, h2, b⟩ | exact ⟨h2, rfl, b⟩
  · have := Z.sum x hx
    rw [count_snoc] at this ⊢
    omega
  · have := Z.flow p
    rw [hm] at this
    omega
  · rcases List.mem_append.mp hv with hv | hv
    · exact Z.dead v hv
    · rw [List.mem_singleton.mp hv, h3]
      exact h0
theorem Hz.done (Z : Hz ws c st lf [] f here m) (h0 : outC ws lf here = 0) (hh : Hang (heldL ws c)) {w0 : Str} (hw : w0 ∈ heldL ws c) (hs : st = begS w0) : Eu ws c f.reverse := by
  obtain rfl : st = here := Z.path
  have hm := Z.stuck h0
  have dn : ∀ x ∈ ws, begS x = st → lf x = 0 := sumK_zero.mp h0
  have c0 : ∀ x ∈ ws, lf x + f.count x = c x := fun x hx => by
    have := Z.sum x hx
    rw [List.count_nil] at this
    omega
  have all : ∀ q, Rch (nxts (heldL ws c)) st q → outC ws lf q = 0 := fun q h => by
    induction h with
    | refl => exact h0
    | step _ h2 ih =>
      obtain ⟨x, hx, e1, e2⟩ := nxts_mem.mp h2
      obtain ⟨hx1, hx2⟩ := held_mem.mp hx
      have z := sumK_zero.mp ih x hx1 e1
      have := c0 x hx1
      have fx : x ∈ f := List.count_pos_iff.mp (by omega)
      rw [← e2]
      exact Z.dead x fx
  have zero : ∀ x ∈ ws, lf x = 0 := fun x hx => by
    by_cases h : 0 < c x
    · have hx2 := held_mem.mpr ⟨hx, h⟩
      have := all (begS x) (hh st (hs ▸ beg_mem hw) (begS x) (beg_mem hx2))
      exact sumK_zero.mp this x hx rfl
    · have := c0 x hx
      omega
  have full : ∀ x ∈ ws, f.reverse.count x = c x := fun x hx => by
    rw [List.count_reverse]
    have := c0 x hx
    have := zero x hx
    omega
  refine ⟨⟨fun h => ?_, st, ?_⟩, full⟩
  · obtain ⟨h1, h2⟩ := held_mem.mp hw
    have := full w0 h1
    rw [h, List.count_nil] at this
    omega
  · have b := Z.back
    rw [← hm] at b
    exact b
end
/-- what may lead on -/
structure Ld (ws : List Str) (lf : Str → Nat) (ld : Str → List Str) : Prop where
  sub : ∀ v, ∀ x ∈ ld v, x ∈ ws ∧ begS x = v
  all : ∀ x ∈ ws, 0 < lf x → x ∈ ld (begS x)
theorem Ld.less {ws : List Str} {lf lf' : Str → Nat} {ld : Str → List Str} (L : Ld ws lf ld) (h : ∀ x, lf' x ≤ lf x) : Ld ws lf' ld := ⟨L.sub, fun x hx h0 => L.all x hx (Nat.lt_of_lt_of_le h0 (h x))⟩
theorem Ld.drop {ws : List Str} {lf : Str → Nat} {ld : Str → List Str} {v y : Str} {l : List Str} (L : Ld ws lf ld) (h : ld v = l ++ [y]) (h0 : lf y = 0) : Ld ws lf (fun z => if z = v then l else ld z) := by
  refine ⟨fun z x hx => ?_, fun x hx hp => ?_⟩
  · by_cases hz : z = v
    · rw [if_pos hz] at hx
      have := L.sub v x (by rw [h]; exact List.mem_append_left _ hx)
      exact ⟨this.1, this.2.trans hz.symm⟩
    · rw [if_neg hz] at hx
      exact L.sub z x hx
  · have := L.all x hx hp
    by_cases hz : begS x = v
    · rw [if_pos hz]
      rw [hz, h] at this
      rcases List.mem_append.mp this with h1 | h1
      · exact h1
      · rw [List.mem_singleton.mp h1, h0] at hp
        omega
    · rw [if_neg hz]
      exact this
theorem Ld.none {ws : List Str} {lf : Str → Nat} {ld : Str → List Str} {v : Str} (L : Ld ws lf ld) (h : ld v = []) : outC ws lf v = 0 := sumK_zero.mpr fun x hx e => by
  by_cases h0 : lf x = 0
  · exact h0
  · have := L.all x hx (by omega)
    rw [e, h] at this
    exact (List.not_mem_nil this).elim
/-! ### whether they hang together, by a flood over the windows -/
def nbF (ws : List Str) (x : Str) : List Str := ws.filter fun y => decide (begS y = endS x)
def nbB (ws : List Str) (x : Str) : List Str := ws.filter fun y => decide (endS y = begS x)
theorem nbF_mem {ws : List Str} {x y : Str} : y ∈ nbF ws x ↔ y ∈ ws ∧ begS y = endS x := by
  unfold nbF
  rw [List.mem_filter, decide_eq_true_iff]
theorem nbB_mem {ws : List Str} {x y : Str} : y ∈ nbB ws x ↔ y ∈ ws ∧ endS y = begS x := by
  unfold nbB
  rw [List.mem_filter, decide_eq_true_iff]
section
variable {L : List Str} {w x : Str}
theorem nbF_to (hw : w ∈ L) (h : Rch (nbF L) w x) : x ∈ L ∧ Rch (nxts L) (begS w) (begS x) := by
  induction h with
  | refl => exact ⟨hw, .refl⟩
  | step _ h2 ih =>
    obtain ⟨hq, e⟩ := nbF_mem.mp h2
    exact ⟨hq, ih.2.step (nxts_mem.mpr ⟨_, ih.1, rfl, e.symm⟩)⟩
theorem nbB_to (hw : w ∈ L) (h : Rch (nbB L) w x) : x ∈ L ∧ Rch (nxts L) (begS x) (begS w) := by
  induction h with
  | refl => exact ⟨hw, .refl⟩
  | step _ h2 ih =>
    obtain ⟨hq, e⟩ := nbB_mem.mp h2
    exact ⟨hq, rch_head (nxts_mem.mpr ⟨_, hq, rfl, e⟩) ih.2⟩
theorem nbF_of {q : Str} (h : Rch (nxts L) (endS w) q) : ∀ x ∈ L, begS x = q → Rch (nbF L) w x := by
  induction h with
  | refl => exact fun x hx e => Rch.refl.step (nbF_mem.mpr ⟨hx, e⟩)
  | step _ h2 ih =>
    intro x hx e
    obtain ⟨y, hy, e1, e2⟩ := nxts_mem.mp h2
    exact (ih y hy e1).step (nbF_mem.mpr ⟨hx, e.trans e2.symm⟩)
theorem nbB_of {q : Str} (hx : x ∈ L) (h : Rch (nxts L) (endS x) q) : ∀ w ∈ L, begS w = q → Rch (nbB L) w x := by
  induction h with
  | refl => exact fun w hw e => Rch.refl.step (nbB_mem.mpr ⟨hx, e.symm⟩)
  | step _ h2 ih =>
    intro w hw e
    obtain ⟨y, hy, e1, e2⟩ := nxts_mem.mp h2
    exact rch_head (nbB_mem.mpr ⟨hy, e2.trans e.symm⟩) (ih y hy e1)
theorem tog_iff (hw : w ∈ L) (hb : ∀ p ∈ plcs L, ∃ x ∈ L, begS x = p) : ((∀ x ∈ L, Rch (nbF L) w x) ∧ ∀ x ∈ L, Rch (nbB L) w x) ↔ Hang L := by
  constructor
  · rintro ⟨h1, h2⟩ p hp q hq
    obtain ⟨x, hx, rfl⟩ := hb p hp
    obtain ⟨y, hy, rfl⟩ := hb q hq
    exact (nbB_to hw (h2 x hx)).2.trans (nbF_to hw (h1 y hy)).2
  · intro h
    exact ⟨fun x hx => nbF_of (h _ (end_mem hw) _ (beg_mem hx)) x hx rfl, fun x hx => nbB_of hx (h _ (end_mem hx) _ (beg_mem hw)) w hw rfl⟩
end
theorem Bal.begs {ws : List Str} {c : Str → Nat} (b : Bal ws c) : ∀ p ∈ plcs (heldL ws c), ∃ x ∈ heldL ws c, begS x = p := by
  intro p hp
  obtain ⟨x, hx, e⟩ := plcs_mem.mp hp
  obtain ⟨h1, h2⟩ := held_mem.mp hx
  rcases e with e | e
  · exact ⟨x, hx, e.symm⟩
  · have hi : 0 < outC ws c p := by
      rw [b p]
      exact sumK_pos.mpr ⟨x, h1, e.symm, h2⟩
    obtain ⟨y, hy, e1, e2⟩ := sumK_pos.mp hi
    exact ⟨y, held_mem.mpr ⟨hy, e2⟩, e1⟩
end My

/-! a text many times; a dict of a list of pairs -/
namespace My
open PySem PySem.Spec PyProof.Rows L2 Evl
theorem rep_one (l : List Nat) : rep 1 l = l := by
  unfold rep
  simp
def rRepS2 : R2 := fun x y H Q => ∃ (z : Str) (k : Int), x = .str z ∧ y = .int k ∧ 1 ≤ k ∧ k ≤ 100000 ∧ 1 ≤ z.length ∧ z.length * k.toNat ≤ 1000000 ∧ Q (.str (tx (rep k.toNat (sg z)))) H
theorem op_rep_str2 {X : Cx} : OpR X (binaryOp .Mult) rRepS2 := by
  intro pins s σ H x y v u Q I rx ry h
  obtain ⟨z, k, rfl, rfl, k1, kb, z1, hm, q⟩ := h
  obtain ⟨t, rfl⟩ := rx
  obtain ⟨t', rfl⟩ := ry
  refine P.mul_str ?_ (fun _ _ => ?_) (fun _ _ => ?_) ?_
  · rw [decide_eq_false (by omega), decide_eq_false (by omega)]
    rfl
  · intro hgt
    have h1 : (2 ^ 63 - 1 : Int) / k < (z.length : Int) := hgt
    have h2 : (2 ^ 63 - 1 : Int) < (z.length : Int) * k := (Int.ediv_lt_iff_lt_mul (by omega)).mp h1
    have h3 : (z.length : Int) * k = ((z.length * k.toNat : Nat) : Int) := by
      rw [Int.natCast_mul, Int.toNat_of_nonneg (by omega)]
    omega
  · show decide (z.length * k.toNat > sizeLine) = false
    have big : 1000000 ≤ sizeLine := by decide
    exact decide_eq_false (by omega)
  · rw [if_neg (by omega)]
    by_cases k1 : k = 1
    · subst k1
      rw [if_pos (show ((1 : Int) == 1 || z.length == 0) = true from rfl)]
      have e : tx (rep (1 : Int).toNat (sg z)) = z := by
        rw [show (1 : Int).toNat = 1 from rfl, rep_one, tx_sg]
      rw [e] at q
      exact ⟨.str z, H, I, ⟨_, rfl⟩, q⟩
    rw [if_neg ?_]
    · have e : (List.replicate k.toNat z.cps).foldl (· ++ ·) #[] = (rep k.toNat (sg z)).toArray := by
        have := rep_fold (sg z) k.toNat #[]
        rw [List.nil_append] at this
        exact this
      rw [e]
      have l : (rep k.toNat (sg z)).toArray.size ≤ sizeLine := by
        have big : 1000000 ≤ sizeLine := by decide
        rw [List.size_toArray, rep_len, ← len_sg, Nat.mul_comm]
        omega
      exact ⟨l, .str _, H, I.tok _, ⟨_, rfl⟩, q⟩
    · intro h
      rcases Bool.or_eq_true_iff.mp h with h | h
      · have := eq_of_beq h
        omega
      · have := eq_of_beq h
        omega
def rDictP (K : PySem.W.Frag) : List V → Hp → VK → Prop := fun xs H Q => ∃ (a : Addr) (ps : List Addr) (kvs : List (Key × V)), xs = [.ref a] ∧ SqL K H a (ps.map V.ref) ∧ Paired (fun p kv => SqT K H p [kV kv.1, kv.2]) ps kvs ∧
    ∀ p, H p = none → Q (.ref p) (upd H p (.dK (mergeK [] kvs)))
theorem call_dictPK {X : Cx} {K : PySem.W.Frag} (hcalm : X.calm = true) (h : X.K = K := by rfl) : CallR X (.type "dict") (rDictP K) := by
  subst h
  exact call_dictP hcalm
/-! ### counts as values -/
def cntV (ws : List Str) (c : Str → Nat) : List V := ws.map fun x => V.int (c x : Int)
def cntD (ws : List Str) (c : Str → Nat) : PyData := .tuple (ws.map fun x => PyData.int (c x : Int))
theorem cntV_len {ws : List Str} {c : Str → Nat} : (cntV ws c).length = ws.length := List.length_map ..
theorem cntV_at {ws : List Str} {c : Str → Nat} {i : Nat} {v : V} (h : (cntV ws c)[i]? = some v) : ∃ z, ws[i]? = some z ∧ v = .int (c z : Int) := by
  unfold cntV at h
  rw [List.getElem?_map] at h
  cases hq : ws[i]? with
  | none => rw [hq] at h; cases h
  | some z => rw [hq] at h; exact ⟨z, rfl, (Option.some.inj h).symm⟩
theorem cntV_congr {ws : List Str} {c d : Str → Nat} (h : ∀ x ∈ ws, c x = d x) : cntV ws c = cntV ws d := List.map_congr_left fun x hx => by rw [h x hx]
theorem dp_cnt {K : PySem.W.Frag} {H : Hp} {v : V} {ws : List Str} {c : Str → Nat} (h : Dp K H v (cntD ws c)) : ∃ a, v = .ref a ∧ SqT K H a (cntV ws c) := by
  cases h with
  | tup h ha =>
    refine ⟨_, rfl, ?_⟩
    rename_i a xs
    have : xs = cntV ws c := by
      clear h
      unfold cntV
      induction ws generalizing xs with
      | nil => cases ha; rfl
      | cons x ws ih =>
        cases ha with
        | cons h1 t =>
          cases h1
          rw [ih t]
          rfl
    rw [← this]
    exact h
theorem cnt_dp {K : PySem.W.Frag} {H : Hp} {a : Addr} {ws : List Str} {c : Str → Nat} (h : SqT K H a (cntV ws c)) : Dp K H (.ref a) (cntD ws c) := by
  refine .tup h ?_
  clear h
  unfold cntV
  induction ws with
  | nil => exact .nil
  | cons x ws ih => exact .cons (.int _) ih
theorem topC (ws : List Str) (c : Str → Nat) : topList (cntD ws c) = true := by
  show noLists (ws.map fun x => PyData.int (c x : Int)) = true
  induction ws with
  | nil => rfl
  | cons x ws ih => exact ih
end My

/-! a tuple many times; dicts of values by texts made at once -/
namespace My
open PySem PySem.Spec PyProof.Rows L2 Evl
theorem tuple_mul1 (l : Addr) (items : Array Value) (n : Nat) (dd : Option Addr) (sl : Array (Option Value)) (u : Tok) :
    Meets (Builtin.«tuple.__mul__» ⟨[.ref l, .int 1 u], []⟩) (fun _ R s => s.heap.get? l = some { cls := .type "tuple", dict := dd, data := .seq items n, slots := sl } ∧ R (.ok (.ret (Value.ref l))) s) :=
  .of_wp fun prog w A R s h => by
    obtain ⟨hp, g, d, tk, os⟩ := s
    obtain ⟨hl, h⟩ := h
    have f1 := AutoSeq1.idx_int
    have c1 : (items.isEmpty || (1 : Int) == 1) = true := by rw [show ((1 : Int) == 1) = true from rfl, Bool.or_true]
    wp_walk using wpAny_loadPart' hl
    repeat (first
      | (refine wpAny_ite_false (by decide) ?_; wp_walk using wpAny_loadPart' hl)
      | (refine wpAny_ite_true (by rw [c1]; rfl) ?_; wp_walk using wpAny_loadPart' hl)
      | (refine wpAny_ite_true (decide_eq_true c1) ?_; wp_walk using wpAny_loadPart' hl)
      | (refine wpAny_ite_true (by decide) ?_; wp_walk using wpAny_loadPart' hl))
    exact ⟨_, rfl, h⟩
def rRepT2 (K : PySem.W.Frag) : R2 := fun x y H Q => ∃ l k xs, x = .ref l ∧ y = .int k ∧ SqT K H l xs ∧ xs ≠ [] ∧ 1 ≤ k ∧ k ≤ 1000 ∧ xs.length ≤ 1000 ∧ ∀ p H', Ex H H' → SqT K H' p (List.replicate k.toNat xs).flatten → Q (.ref p) H'
theorem op_repT2 {X : Cx} {K : PySem.W.Frag} (hK : X.K = K := by rfl) : OpR X (binaryOp .Mult) (rRepT2 K) := by
  subst hK
  intro pins s σ H x y v u Q I rx ry h
  obtain ⟨l, k, xs, rfl, rfl, hT, hne, h1, h2, hz, q⟩ := h
  by_cases k1 : k = 1
  · subst k1
    have e : (List.replicate (1 : Int).toNat xs).flatten = xs := by
      show ([xs] : List (List V)).flatten = xs
      simp
    rw [e] at q
    cases rx
    obtain ⟨t, rfl⟩ := ry
    obtain ⟨its, r, ⟨⟨cls, dd, data, sl⟩, ho, hc, n, hd⟩, hs⟩ := I.tuple hT
    simp only at hc hd
    subst hc hd
    refine wpAny_binaryOp_repeat_ref (T := "tuple") (U := "int") (by decide) ⟨_, ho, rfl⟩ (fun s' => typeIs_int s' 1 t) noFill_tuple_mul F.fills_int_mul F.slot_int_rmul repeat_tuple F.slot_int_index.lookup
      (call_meets F.slot_int_rmul (typeIs_int s 1 t) F.entry_int_rmul (F.args_int_rmul_2 _ _) (int_rmul_tuple 1 t l its.toArray n dd sl)
        ⟨ho, rfl, ⟨_, ho, rfl⟩, call_meets F.slot_tuple_mul ⟨_, ho, rfl⟩ F.entry_tuple_mul (F.args_tuple_mul_2 _ _) (tuple_mul1 l its.toArray n dd sl t) ⟨ho, ?_⟩⟩)
    exact ⟨.ref l, H, I, rfl, q _ _ (Ex.refl _) hT⟩
  · exact op_repT pins s σ H _ _ v u Q I rx ry ⟨l, k, xs, rfl, rfl, hT, hne, by omega, h2, hz, fun p np => q p _ (Ex.new np) (SqT.of upd_same)⟩
theorem get_listK {X : Cx} {K : PySem.W.Frag} (hK : X.K = K := by rfl) : PGet X (rIxL K) := by
  subst hK
  intro pins s σ H o i ov iv Q I rx ry h
  obtain ⟨p, xs, i, z, rfl, rfl, hq, he, q⟩ := h
  cases rx
  obtain ⟨t, rfl⟩ := ry
  obtain ⟨its, r, pl, hz⟩ := I.list hq
  obtain ⟨j, h1, h2, h3, h4, h5⟩ := atI_get he
  obtain ⟨w, ew, rw'⟩ := r.get h2
  have hl := r.length
  have hn := line63
  have fin : EP X pins σ Q w s := ⟨z, H, I, rw', q⟩
  by_cases h0 : 0 ≤ i
  · have hj : i.toNat = j := by
      rw [seqIndex_of h0 h5] at h1
      exact Option.some.inj h1
    exact wpAny_getItem_list pl.isList h0 (by omega) (by rw [hj]; simpa using ew) fin
  · have hj : (i + (its.toArray.size : Int)).toNat = j := by
      rw [seqIndex_neg (by omega) h4] at h1
      rw [List.size_toArray, ← hl]
      exact Option.some.inj h1
    exact wpAny_getItem_list_neg pl.isList (by omega) (by rw [List.size_toArray] <;> omega) (by omega) (by rw [hj]; simpa using ew) fin
/-- a dict of values by texts -/
theorem dc_vals {J : It} {H1 : Hp} {ks : List Str} {item : Nat → V → Hp → Prop} {g : TG} {tt : TT} {tk tv : TE} {vs : List Nat} {σ : L2.St} {D : Addr} {Qd : Hp → Prop} (S : Src J H1 ks.length item) (nd : ks.Nodup) (hn : ks.length ≤ 1000000) (f : Nat → Str → V) (F : Str → V) (hF : ∀ i z, ks[i]? = some z → f i z = F z) (np : H1 D = none)
    (hs : ∀ (i : Nat) (z : Str) (x : V) (H2 : Hp) (C : V → V → Hp → Prop) (Z : Hp → Prop), ks[i]? = some z → Ex H1 H2 → item i x H2 → (∀ H3, Ex H2 H3 → C (.str z) (f i z) H3) →
      g x (wipe σ vs) H2 fun σ2 H3 => wipe σ2 vs = wipe σ vs ∧ tt σ2 H3 fun b H4 => if b = true then tk σ2 H4 fun y H5 => tv σ2 H5 fun v H6 => C y v H6 else Z H4)
    (hd : ∀ H', Ex H1 H' → H' D = some (.dK (fkv F ks)) → Qd H') : DcGo J H1 g tt tk tv vs σ D Qd := by
  have big : 1000000 < sizeLine := by decide
  refine ⟨fun i m H => m = ks.length - i ∧ i ≤ ks.length ∧ Ex H1 H ∧ H D = some (.dK (fkv F (ks.take i))), ⟨_, rfl, Nat.zero_le _, Ex.new np, upd_same⟩, ?_⟩
  rintro i m H ⟨rfl, hi, e, hD⟩
  by_cases hlt : i < ks.length
  · refine .inr ⟨S.go i H e hlt, fun H' => Ex H1 H' ∧ H' D = some (.dK (fkv F (ks.take (i + 1)))), fun H' p' => ⟨ks.length - (i + 1), by omega, rfl, hlt, p'⟩, fun x H' y => ?_⟩
    obtain ⟨e2, it⟩ := S.yld i H x H' e hlt y
    have hz : ks[i]? = some ks[i] := List.getElem?_eq_getElem hlt
    have znew : ks[i] ∉ ks.take i := fun h => by
      have h2 : (ks.take (i + 1)).Nodup := (List.take_sublist _ _).nodup nd
      rw [take_snoc hz] at h2
      exact (List.nodup_append.mp h2).2.2 _ h _ (List.mem_singleton.mpr rfl) rfl
    refine hs i ks[i] x H' _ _ hz (e.trans e2) it fun H6 e6 => ?_
    have h6 := (e2.trans e6) _ _ hD
    refine ⟨_, kS ks[i], rfl, h6, by rw [fkv_len, List.length_take]; omega, Ex.mut (e.trans (e2.trans e6)) np, ?_⟩
    rw [upd_same, fkv_put, addS, if_neg znew, take_snoc hz, hF i _ hz]
    rw [show (fun z => if z = ks[i] then F ks[i] else F z) = F from funext fun y => by
      by_cases h : y = ks[i]
      · rw [if_pos h, h]
      · rw [if_neg h]]
  · obtain rfl : i = ks.length := by omega
    rw [List.take_length] at hD
    exact .inl ⟨S.stop _ H e (Nat.le_refl _), hd H e hD⟩
theorem fkv_put_in {f : Str → V} {ks : List Str} {k : Str} {v : V} (h : k ∈ ks) : putK (fkv f ks) (kS k) v = fkv (fun z => if z = k then v else f z) ks := by
  rw [fkv_put, addS, if_pos h]
theorem fkv_congr {f g : Str → V} {ks : List Str} (h : ∀ z ∈ ks, f z = g z) : fkv f ks = fkv g ks := List.map_congr_left fun z hz => by rw [h z hz]
theorem merge_fkv {F : Str → V} : ∀ {ks : List Str}, ks.Nodup → mergeK [] (fkv F ks) = fkv F ks := by
  have key : ∀ (ks acc : List Str), (acc ++ ks).Nodup → mergeK (fkv F acc) (fkv F ks) = fkv F (acc ++ ks) := by
    intro ks
    induction ks with
    | nil => intro acc _; rw [List.append_nil]; rfl
    | cons k ks ih =>
      intro acc nd
      have kn : k ∉ acc := fun h => (List.nodup_append.mp nd).2.2 k h k (List.mem_cons_self ..) rfl
      have e : putK (fkv F acc) (kS k) (F k) = fkv F (acc ++ [k]) := by
        rw [fkv_put, addS, if_neg kn]
        rw [show (fun z => if z = k then F k else F z) = F from funext fun y => by
          by_cases h : y = k
          · rw [if_pos h, h]
          · rw [if_neg h]]
      show mergeK (putK (fkv F acc) (kS k) (F k)) (fkv F ks) = _
      rw [e, ih _ (by rw [List.append_assoc]; exact nd), List.append_assoc]
      rfl
  exact fun {ks} nd => key ks [] nd
theorem zip_fkv {ks : List Str} {F : Str → V} : ((ks.zip (ks.map F)).map fun kv => ((Sum.inr kv.1 : Key), kv.2)) = fkv F ks := by
  induction ks with
  | nil => rfl
  | cons k ks ih =>
    rw [List.map_cons, List.zip_cons_cons, List.map_cons, ih]
    rfl
end My

/-! name = {..} on one line, the name a local -/
namespace My
open PySem PySem.Spec PyProof.Rows L2 Evl
section
variable {X : Cx}
theorem sw_trueD {kx vx : Expr} {gs : List Comprehension} {scope : Scope} {pos py : Pos} {y : Str} {l : Nat} {env : Env} (hk : env.scope.kind = .function) (hy : env.scope.names.lookup y = some .local) (hl : (py.line == pos.line) = true)
    (ha : (scope.names.any fun (n, k) => n == y && (k == .local || k == .cell)) = false) : swapsWith (.DictComp kx vx gs scope pos) (some (.Name y py)) l env = pure true := by
  have ky : env.kindOf y = some .local := hy
  have hb : env.blockKind = .function := by unfold Env.blockKind; rw [hk]; rfl
  unfold swapsWith
  simp only [hb, ky, ha, Expr.pos, hl]
  rfl
theorem ps_setDc {i : Nat} {y : Str} {py : Pos} {kx vx tg iter : Expr} {ifs : List Expr} {scope : Scope} {own : List (Str × Nat)} {pos spos : Pos} {wi : TI} {g : TG} {tt : TT} {tk tv : TE} (hc : X.calm = true) (hN : X.N.Nodup) (hy : X.N[i]? = some y) (hyl : X.env.scope.names.lookup y = some .local)
    (hsw : swapsWith (.DictComp kx vx [⟨tg, iter, ifs, 0⟩] scope pos) (some (.Name y py)) spos.line X.env = pure true) (hi : PI X tg iter wi) (ok : BlkOk X.N X.env.scope scope own)
    (hg : ∀ (s : Shared) (H : Hp) (C : Addr) (cl : List (Str × Addr)) (fp : List Addr), PG (X.blk s H scope (compEnvC scope cl C X.env) fp) tg g) (ht : ∀ (s : Shared) (H : Hp) (C : Addr) (cl : List (Str × Addr)) (fp : List Addr), PTs (X.blk s H scope (compEnvC scope cl C X.env) fp) ifs tt)
    (hk : ∀ (s : Shared) (H : Hp) (C : Addr) (cl : List (Str × Addr)) (fp : List Addr), PE (X.blk s H scope (compEnvC scope cl C X.env) fp) kx tk)
    (he : ∀ (s : Shared) (H : Hp) (C : Addr) (cl : List (Str × Addr)) (fp : List Addr), PE (X.blk s H scope (compEnvC scope cl C X.env) fp) vx tv) (hs : ∀ x, foldedSetIterable iter X.env x = pure x := by intro _; rfl) :
    PS X (.Assign [.Name y py] (.DictComp kx vx [⟨tg, iter, ifs, 0⟩] scope pos) spos) (tAsg (tDc wi g tt tk tv (own.map (·.2))) (gName i)) := by
  refine ⟨fun pins s σ H D I h => ?_⟩
  rw [exec_Assign_Name_used _ _ _ _ hsw]
  refine wpAny_bind (wpAny_standAt (wpAny_bind ?_))
  show wpAny _ X.A (do let _ ← comprehension (.DictComp kx vx [⟨tg, iter, ifs, 0⟩] scope pos) scope X.env (firstIterPos [⟨tg, iter, ifs, 0⟩] pos) newDict false (eval iter X.env) (some (assign (.Name y py) X.env))) _ _ s
  have h : tDc wi g tt tk tv (own.map (·.2)) σ H (fun x H1 => gName i x σ H1 D.nx) := h
  refine wpAny_bind (thn (dc_core (Qf := fun _ s' => SP X pins D .next s') hc hN I hi ok hg ht hk he hs h fun L C s' m H' I' q hn f => ?_) fun _ s' hq => wpAny_pure (wpAny_pure hq))
  show wpAny _ _ (assign (.Name y py) X.env (.ref L)) _ _ _
  refine wpAny_assign_Name (store_ok2 (v := V.ref L) I' hN hy (.inl hyl) rfl (fun s2 I2 ⟨a, sb, ha⟩ => ?_) (.inr hyl))
  obtain ⟨f0, f1, f2, f3, f4, f5⟩ := f
  have haC : C ≠ a := by
    rcases ha with z | z
    · rw [z]; exact f1
    · exact fun e => f4 y a z e.symm
  refine ⟨m, hn.sameBut sb haC, fun h3 sb3 => ?_⟩
  exact ⟨_, H', I2.turned (t' := s2.toks) (fun b o hb e => (sb3.2 b hb).trans e) f0 f1 f3 f4 f5, q⟩
end
end My

/-! list.count of a text -/
namespace My
open PySem PySem.Spec PyProof.Rows L2 Evl
def eqs (z : Str) (v : Value) : Bool := match v with
  | .str n _ => n.cps.toList == z.cps.toList
  | _ => false
theorem eqs_gives {z : Str} {t : Tok} : ∀ {us : List Value} {ns : List Str}, StrsAre us ns → ∀ y ∈ us, MeetsSeq.EqGives y (.str z t) (eqs z y)
  | _, _, .nil => fun y hy => by cases hy
  | _, _, .cons n t' h => fun y hy => by
    rcases List.mem_cons.mp hy with e | e
    · rw [e]
      exact SeqRoads2.EqGives.str n z t' t
    · exact eqs_gives h y e
theorem eqs_count {z : Str} : ∀ {us : List Value} {ns : List Str}, StrsAre us ns → us.countP (eqs z) = ns.count z
  | _, _, .nil => rfl
  | _, _, .cons n t h => by
    have ih := eqs_count (z := z) h
    rw [List.countP_cons, List.count_cons, ih]
    congr 1
    have e : eqs z (.str n t) = (n == z) := by
      show (n.cps.toList == z.cps.toList) = (n == z)
      by_cases h : n = z
      · rw [h, beq_self_eq_true, beq_self_eq_true]
      · rw [beq_eq_false_iff_ne.mpr h, beq_eq_false_iff_ne.mpr (show n.cps.toList ≠ z.cps.toList from fun q => h (sg_inj q))]
    rw [e]
def rCntS (K : PySem.W.Frag) : V → List V → Hp → VK → Prop := fun x xs H Q => ∃ (p : Addr) (ns : List Str) (k : Str), x = .ref p ∧ xs = [.str k] ∧ SqL K H p (ns.map V.str) ∧ Q (.int (ns.count k : Nat)) H
theorem mt_lcountS {X : Cx} {K : PySem.W.Frag} (hK : X.K = K := by rfl) : MtR X "list.count" (rCntS K) := by
  subst hK
  intro pins s σ H x xs v us Q I rx rxs h
  obtain ⟨p, ns, k, rfl, rfl, hs, q⟩ := h
  cases rx
  obtain ⟨u, rfl, ru⟩ := rxs.one
  obtain ⟨t, rfl⟩ := ru
  obtain ⟨its, rv, ⟨⟨cls, dd, data, sl⟩, n, ho, hc, hdn, hd⟩, hlen⟩ := I.list hs
  simp only at hc hd
  subst hc hd
  have hi := L2.strsAre_of rv
  refine call_meets PySem.F.slot_list_count ⟨_, ho, rfl⟩ PySem.F.entry_list_count (PySem.F.args_list_count_2 _ _)
    (SeqAt.list_countAt p its.toArray n dd sl (.str k t) (eqs k)) ⟨ho, fun y hy => (eqs_gives hi y (by simpa using hy)).at _ _, ?_⟩
  have ec : its.toArray.toList.countP (eqs k) = ns.count k := eqs_count hi
  refine ⟨.int (ns.count k : Nat), H, I.tok _, ⟨s.toks, ?_⟩, q⟩
  show Value.int ((its.toArray.toList.countP (eqs k) : Nat) : Int) s.toks = Value.int ((ns.count k : Nat) : Int) s.toks
  rw [ec]
end My

/-! sum of a tuple of ints -/
namespace My
open PySem PySem.Spec PyProof.Rows L2 Evl
def rSumT (K : PySem.W.Frag) : List V → Hp → VK → Prop := fun vs H Q => ∃ (a : Addr) (ns : List Int), vs = [V.ref a] ∧ SqT K H a (ns.map V.int) ∧ Q (.int ns.sum) H
theorem cr_sumT {X : Cx} {K : PySem.W.Frag} (hc : X.calm = true) (hK : X.K = K := by rfl) : CallR X (.builtin "sum") (rSumT K) := by
  subst hK
  intro pins s σ H vs us Q I r h
  obtain ⟨a, ns, rfl, hs, q⟩ := h
  obtain ⟨its, rv, hl, _⟩ := I.tuple hs
  rw [Vals.ref1 r]
  have hi := rv.ints
  obtain ⟨xs, e⟩ := hi.allInts.items
  have hn : numsOf (intItems xs).toList = ns := by rw [← e]; exact hi.numsOf
  rw [nums_intItems] at hn
  rw [e] at hl
  refine PySem.W.ktm_sumG (I.ok.hd hc) hl fun h' tk t' hk => ?_
  rw [preSum_eq, List.take_of_length_le (by simp), hn]
  exact ⟨.int _, H, I.kept hk, ⟨_, rfl⟩, q⟩
theorem cnt_sum {ws : List Str} {c : Str → Nat} : (ws.map fun x => (c x : Int)).sum = ((ws.map c).sum : Nat) := by
  induction ws with
  | nil => rfl
  | cons x ws ih =>
    rw [List.map_cons, List.map_cons, List.sum_cons, List.sum_cons, ih]
    omega
theorem cntV_ints {ws : List Str} {c : Str → Nat} : cntV ws c = (ws.map fun x => (c x : Int)).map V.int := by
  rw [List.map_map]
  rfl
end My

/-! enumerate of a tuple -/
namespace My
open PySem PySem.Spec PyProof.Rows L2 Evl
open AutoSeq1 (wpAny_loadPart')
theorem meets_enumT (l : Addr) (items : Array Value) (n : Nat) (dct : Option Addr) (sl : Array (Option Value)) :
    Meets (Builtin.«enumerate.__new__» ⟨[.type "enumerate", .ref l], []⟩) (fun _ R s => s.heap.get? l = some { cls := .type "tuple", dict := dct, data := .seq items n, slots := sl } ∧
      R (.ok (.ret (.ref (s.heap.push { cls := .type "tuple_iterator", data := .fields #[.ref l, .int 0 0] }).objs.size)))
        { s with heap := (s.heap.push { cls := .type "tuple_iterator", data := .fields #[.ref l, .int 0 0] }).push { cls := .type "enumerate", data := .fields #[.none, .bool false, .ref s.heap.objs.size, rawInt 0, .none, .none] } }) :=
  .of_wp fun prog w A R s h => by
    obtain ⟨hp, g, d, tk, os⟩ := s; obtain ⟨hl, h⟩ := h
    have hsub := sub_enumerate
    have hL : Heap.IsTuple (Shared.heap ⟨hp, g, d, tk, os⟩) l items := ⟨_, hl, rfl, n, rfl⟩
    wp_walk using wpAny_loadPart' hl
    refine wpAny_stack_any fun st => wpAny_pure ?_
    split
    · rename_i c _ _ _ _ _
      cases (c == Value.type "enumerate")
      · wp_walk using wpAny_loadPart' hl, wpAny_pyIter_tuple hL
        exact ⟨_, rfl, h⟩
      · wp_walk using wpAny_loadPart' hl, wpAny_pyIter_tuple hL
        exact ⟨_, rfl, h⟩
    · wp_walk using wpAny_loadPart' hl, wpAny_pyIter_tuple hL
      exact ⟨_, rfl, h⟩
section
variable {prog : Program} {w : World} {A : Around} {E : Value → Shared → Prop} {s : Shared}
theorem call_enumT {l : Addr} {items : Array Value} {Q : Value → Shared → Prop} (hL : s.heap.IsTuple l items)
    (h : ∀ h', IsEnum h' (s.heap.objs.size + 1) s.heap.objs.size 0 .none → h'.IsTupleIter s.heap.objs.size l 0 → h'.objs.size = s.heap.objs.size + 2 →
      (∀ b o, s.heap.get? b = some o → h'.get? b = some o) → Q (.ref (s.heap.objs.size + 1)) { s with heap := h' }) :
    wpAny (model prog w) A (call (.type "enumerate") [.ref l]) Q E s := by
  obtain ⟨⟨c, dct, dt, sl⟩, hl, hc, n, hd⟩ := hL
  replace hc : c = .type "tuple" := hc
  replace hd : dt = .seq items n := hd
  subst hc hd
  refine callType_new F.called_enumerate (by decide) (F.typeCall_enumerate_1 _) (F.newCall_enumerate_1 _) (fun obj => F.args_object_init_2 obj _) F.entry_enumerate_new
    (meets_enumT l items n dct sl) ⟨hl, ?_⟩
  have hz : (s.heap.push { cls := .type "tuple_iterator", data := .fields #[.ref l, .int 0 0] }).objs.size = s.heap.objs.size + 1 := Heap.size_push ..
  show _ ∧ _
  rw [hz]
  have he : IsEnum ((s.heap.push { cls := .type "tuple_iterator", data := .fields #[.ref l, .int 0 0] }).push
      { cls := .type "enumerate", data := .fields #[.none, .bool false, .ref s.heap.objs.size, rawInt 0, .none, .none] }) (s.heap.objs.size + 1) s.heap.objs.size 0 .none := by
    have := Heap.get?_push_size (s.heap.push { cls := .type "tuple_iterator", data := .fields #[.ref l, .int 0 0] })
      (o := { cls := .type "enumerate", data := .fields #[.none, .bool false, .ref s.heap.objs.size, rawInt 0, .none, .none] }) rfl
    rw [hz] at this; exact this
  refine ⟨⟨_, he, rfl⟩, h _ he ⟨_, Heap.get?_push_of_some _ (Heap.get?_push_size _ rfl), rfl, rfl⟩ (by rw [Heap.size_push, hz]) fun b o x => Heap.get?_push_of_some _ (Heap.get?_push_of_some _ x)⟩
end
def IteT (K : PySem.W.Frag) (a : Addr) : It :=
  ⟨fun i H => ∃ (xs : List V) (x : V), SqT K H a xs ∧ xs[i]? = some x, fun i H v H' => ∃ T x, v = .ref T ∧ H T = none ∧ H' = upd H T (.tup [.int (i : Nat), x]) ∧ ∀ xs, SqT K H a xs → xs[i]? = some x, fun i H => ∃ xs : List V, SqT K H a xs ∧ xs.length ≤ i⟩
theorem turn_enumT {P : Program} {w : World} {K : PySem.W.Frag} {elts : List Expr} {kk : Nat} {tpos : Pos} (a e it : Addr) :
    Turn P w K (.Tuple elts kk tpos) (IteT K a) [e, it] e (fun i h => (∃ old, IsEnum h e it ((i : Nat) : Int) old) ∧ h.IsTupleIter it a i ∧ e ≠ it ∧ a ≠ it ∧ a ≠ e) where
  mem := by simp
  obj := fun i h st b hb => by
    obtain ⟨⟨old, he⟩, ⟨o, ho, hc, hd⟩, _⟩ := st
    have e' : b = e ∨ b = it := by simpa using hb
    rcases e' with z | z
    · rw [z]; exact ⟨_, he, fun v q => nomatch q⟩
    · rw [z]; exact ⟨o, ho, fun v q => by rw [hd] at q; cases q⟩
  keep := fun i h h' st k => let ⟨⟨old, he⟩, hi, hne⟩ := st; ⟨⟨old, k e (by simp) _ he⟩, hi.at fun o q => k it (by simp) o q, hne⟩
  item := by
    intro X hP hw hK hc i pins s σ H E I hf st hg
    subst hP hw hK
    obtain ⟨⟨old, he⟩, hit, hne, hai, hae⟩ := st
    obtain ⟨xs, x, hq, hx⟩ := hg
    obtain ⟨its, rv, p, hz⟩ := I.tuple hq
    obtain ⟨u, hu, ru⟩ := rv.get hx
    have hel : e < s.heap.objs.size := Heap.lt_size he
    have hil : it < s.heap.objs.size := by obtain ⟨_, q, _⟩ := hit; exact Heap.lt_size q
    have hlt : i < its.toArray.size := by
      have := (List.getElem?_eq_some_iff.mp hu).1
      simpa using this
    refine wpAny_pyNext_enum_itemD (Draws.tuple (A := X.A.in1) (I.ok.hd hc) it a hai its.toArray) he ⟨hit, p⟩ hlt hne (by simp; exact ⟨hne, fun q => hae q.symm⟩) fun x' h' tk hPx ho hst' hT hsz hk => ?_
    have ex : x' = u := by
      have h1 : its[i]? = some x' := by simpa using hPx
      rw [hu] at h1
      exact (Option.some.inj h1).symm
    subst ex
    refine ⟨_, rfl, wpAny_letOwnedTupleGo_enum (s := { s with heap := h', toks := tk + 1 }) ho fun h'' he' sb => ?_⟩
    have hT2 : h''.get? s.heap.objs.size = some { cls := .type "tuple", data := .seq #[.int i tk, x'] } := (sb.2 _ (Nat.ne_of_gt hel)).trans hT
    have new : ObjOk X.prog X.w (upd H s.heap.objs.size (.tup [.int (i : Nat), x])) h'' s.heap.objs.size (.tup [.int (i : Nat), x]) :=
      ⟨by show 2 ≤ sizeLine; decide, [.int i tk, x'], .cons ⟨_, rfl⟩ (.cons ru .nil), ⟨_, hT2, rfl, _, rfl⟩⟩
    have I1 : Inv X pins σ (upd H s.heap.objs.size (.tup [.int (i : Nat), x])) { s with heap := h'', toks := tk + 1 } :=
      I.turnedNew (ch := [e, it]) (fun b ob hb q => (sb.2 b (fun z => hb (by simp [z]))).trans (hk b ob (fun z => hb (by simp [z])) (fun z => hb (by simp [z])) q)) hf (Nat.le_refl _) new
    refine ⟨.ref s.heap.objs.size, _, I1, rfl, ⟨_, x, rfl, I.hok.fresh (Nat.le_refl _), rfl, fun ys hy => by rw [I.tuple_inj hy hq]; exact hx⟩, ⟨⟨x', ?_⟩, hst'.1.at fun o q => (sb.2 it (Ne.symm hne)).trans q, hne, hai, hae⟩, fun b hb => ?_⟩
    · have e1 : ((i + 1 : Nat) : Int) = (i : Int) + 1 := by omega
      rw [e1]; exact he'
    · have hb' : b < s.heap.objs.size := by
        have e' : b = e ∨ b = it := by simpa using hb
        rcases e' with z | z
        · rw [z]; exact hel
        · rw [z]; exact hil
      rw [upd_ne (Nat.ne_of_lt hb')]
      exact (hf b hb).1
  done := by
    intro X hP hw hK hc i pins s σ H E I hf st hg
    subst hP hw hK
    obtain ⟨⟨old, he⟩, hit, hne, hai, hae⟩ := st
    obtain ⟨xs, hq, hx⟩ := hg
    obtain ⟨its, rv, p, hz⟩ := I.tuple hq
    obtain ⟨f0, f1, f2, f3, f4, f5⟩ := hf it (by simp)
    have hl := rv.length
    have T := Draws.tuple (prog := X.prog) (w := X.w) (A := X.A.in1) (I.ok.hd hc) it a hai its.toArray
    have hT : s.TypeIs (.ref e) "enumerate" := ⟨_, he, rfl⟩
    unfold pyNext
    refine wpAny_bind (wpAny_attempt (wpAny_callSpecial?_slot (name := Str.ofString "__next__") hT F.slot_enumerate_next
      (wpAny_call_entry F.slot_enumerate_next hT F.entry_enumerate_next ?_ (F.args_enumerate_next_1 _))))
    show wpAny _ _ (field (.ref e) 2 >>= _) _ _ _
    refine wpAny_bind (wpAny_field he rfl (x := .ref it) rfl ?_)
    refine wpAny_bind (wpAny_nextOf_tuple_end (I.ok.hd hc) hit p (by simp; omega) fun h' x he' hx' => ?_)
    obtain ⟨o, ho, hc2⟩ := hx'
    refine wpAny_bind (wpAny_isInstance (T := "StopIteration") (b := true) ⟨o, ho, hc2⟩ isSubtype_stop ?_)
    exact wpAny_pure ⟨rfl, I.turned (t' := s.toks) (fun b o hb q => he' b o hb q) f0 f1 f3 f4 f5⟩
  self := fun A i s Q E st h => let ⟨⟨_, he⟩, _⟩ := st; wpAny_pyIter_enum he h
def iEnumT (K : PySem.W.Frag) (ta : TA) : TI := fun σ H R => ta σ H fun vs H1 => ∃ a xs, vs = [.ref a] ∧ SqT K H1 a xs ∧ R (IteT K a) H1
theorem pi_enumTK {X : Cx} {K : PySem.W.Frag} {e : Expr} {ta : TA} {p pos tpos : Pos} {elts : List Expr} {kk : Nat} (hm : X.mg "enumerate" = none) (ha : PA X [e] ta) (hK : X.K = K := by rfl) (hg : Gl X "enumerate" := by rfl) (hs : starEach [e] X.env = [(false, eval e X.env)] := by rfl) :
    PI X (.Tuple elts kk tpos) (.Call (.Name "enumerate" p) [e] [] pos) (iEnumT K ta) := by
  subst hK
  refine ⟨fun pins s σ H R I h => ?_⟩
  refine Call_ (ld_blt I hg hm boot_enumerate (PyProof.Rows.callWith_type1 (thn (ha.run pos pins s σ H _ I h) fun us s1 ⟨vs, H1, I1, r1, q1⟩ => ?_) hs rfl))
  obtain ⟨a, xs, ex, hq, q⟩ := q1
  subst ex
  cases r1 with
  | cons r rr =>
    cases rr
    cases r
    obtain ⟨its, rv, p', hz⟩ := I1.tuple hq
    have hal : a < s1.heap.objs.size := by
      obtain ⟨o, ho, _⟩ := id p'
      exact Heap.lt_size ho
    refine call_enumT p' fun h' he hit hsz hk => wpAny_pyIter_enum he ?_
    have I2 : Inv X pins σ H1 { s1 with heap := h' } := I1.kept (t' := s1.toks) hk
    refine ⟨s1.heap.objs.size + 1, [s1.heap.objs.size + 1, s1.heap.objs.size], _, _, H1, rfl, I2, turn_enumT a (s1.heap.objs.size + 1) s1.heap.objs.size, ⟨⟨.none, he⟩, hit, Nat.succ_ne_self _, Nat.ne_of_lt hal, Nat.ne_of_lt (Nat.lt_succ_of_lt hal)⟩, fun b hb => ?_, q⟩
    have e' : b = s1.heap.objs.size + 1 ∨ b = s1.heap.objs.size := by simpa using hb
    have hle : s1.heap.objs.size ≤ b := by
      rcases e' with z | z
      · rw [z]; exact Nat.le_add_right _ _
      · rw [z]; exact Nat.le_refl _
    exact I1.fpOk hle (I1.hok.fresh hle)
theorem src_enumT {K : PySem.W.Frag} {Hb : Hp} {a : Addr} {xs : List V} (h : SqT K Hb a xs) : Src (IteT K a) Hb xs.length (fun i x H => ∃ T y, x = .ref T ∧ H T = some (.tup [.int i, y]) ∧ xs[i]? = some y) :=
  ⟨fun i H2 e hi => ⟨xs, xs[i], ex_t e h, List.getElem?_eq_getElem hi⟩, fun i H2 e hi => ⟨xs, ex_t e h, hi⟩, fun i H2 x H3 e _ y => by
    obtain ⟨T, z, rfl, np, rfl, q⟩ := y
    exact ⟨Ex.new np, T, z, rfl, upd_same, q xs (ex_t e h)⟩⟩
end My

/-! what lies about while a closed walk is made -/
namespace My
open PySem PySem.Spec PyProof.Rows L2 Evl
theorem Ex.hid {H H' : Hp} {D : Addr} (e : Ex H H') (h : H D = none) : Ex H (hide D H') := fun a o ha => by
  rw [hide_ne (ne_of_none ha h)]
  exact e _ _ ha
theorem Two.unsnoc {α β : Type} {R : α → β → Prop} {a : α} : ∀ {as : List α} {bs : List β}, Two R (as ++ [a]) bs → ∃ bs' b, bs = bs' ++ [b] ∧ Two R as bs' ∧ R a b
  | [], _, .cons h .nil => ⟨[], _, rfl, .nil, h⟩
  | x :: as, _, .cons h t => by
    obtain ⟨bs', b, rfl, h1, h2⟩ := Two.unsnoc t
    exact ⟨_ :: bs', b, rfl, .cons h h1, h2⟩
theorem Wb.hid {Hb H : Hp} {d L : Addr} {ks : List Str} {f : Str → List Str} {rs : Str → Addr} (w : Wb Hb H d ks f rs) : Wb (hide L Hb) H d ks f rs :=
  ⟨hide_ex.trans w.e, fresh_back hide_ex w.nd, w.nk, w.hd, fun k hk => ⟨fresh_back hide_ex (w.row k hk).1, (w.row k hk).2⟩, w.inj⟩
theorem Wb.oth {Hb H : Hp} {d a : Addr} {ks : List Str} {f : Str → List Str} {rs : Str → Addr} {o : HO} (w : Wb Hb H d ks f rs) (ha : Hb a = none) (h1 : d ≠ a) (h2 : ∀ k ∈ ks, rs k ≠ a) : Wb Hb (upd H a o) d ks f rs :=
  ⟨Ex.mut w.e ha, w.nd, w.nk, by rw [upd_ne h1]; exact w.hd, fun k hk => ⟨(w.row k hk).1, by rw [upd_ne (h2 k hk)]; exact (w.row k hk).2⟩, w.inj⟩
theorem Wb.pop {Hb H : Hp} {d : Addr} {ks : List Str} {f : Str → List Str} {rs : Str → Addr} {k : Str} {l : List Str} (w : Wb Hb H d ks f rs) (hk : k ∈ ks) :
    Wb Hb (upd H (rs k) (.lst (l.map V.str))) d ks (fun z => if z = k then l else f z) rs := by
  obtain ⟨h1, h2⟩ := w.row k hk
  refine ⟨Ex.mut w.e h1, w.nd, w.nk, ?_, fun z hz => ⟨(w.row z hz).1, ?_⟩, w.inj⟩
  · rw [upd_ne (ne_of w.hd h2 fun q => nomatch q)]
    exact w.hd
  · by_cases hzk : z = k
    · subst hzk
      rw [upd_same, if_pos rfl]
    · rw [upd_ne fun q => hzk (w.inj z hz k hk q), if_neg hzk]
      exact (w.row z hz).2
/-- a dict of new, empty lists -/
theorem dc_rows {J : It} {H1 : Hp} {ks : List Str} {item : Nat → V → Hp → Prop} {g : TG} {tt : TT} {tk tv : TE} {vs : List Nat} {σ : L2.St} {D : Addr} {Qd : Hp → Prop} (S : Src J H1 ks.length item) (nd : ks.Nodup) (hn : ks.length ≤ 1000000) (np : H1 D = none)
    (hs : ∀ (i : Nat) (z : Str) (x : V) (H2 : Hp) (C : V → V → Hp → Prop) (Z : Hp → Prop), ks[i]? = some z → Ex H1 H2 → item i x H2 → (∀ p, H2 p = none → C (.str z) (.ref p) (upd H2 p (.lst []))) →
      g x (wipe σ vs) H2 fun σ2 H3 => wipe σ2 vs = wipe σ vs ∧ tt σ2 H3 fun b H4 => if b = true then tk σ2 H4 fun y H5 => tv σ2 H5 fun v H6 => C y v H6 else Z H4)
    (hd : ∀ H' rs, Wb H1 H' D ks (fun _ => []) rs → Qd H') : DcGo J H1 g tt tk tv vs σ D Qd := by
  have big : 1000000 < sizeLine := by decide
  refine ⟨fun i m H => m = ks.length - i ∧ i ≤ ks.length ∧ ∃ rs, Wb H1 H D (ks.take i) (fun _ => []) rs, ⟨_, rfl, Nat.zero_le _, fun _ => 0, Wb.start np⟩, ?_⟩
  rintro i m H ⟨rfl, hi, rs, W⟩
  by_cases hlt : i < ks.length
  · refine .inr ⟨S.go i H W.e hlt, fun H' => ∃ rs, Wb H1 H' D (ks.take (i + 1)) (fun _ => []) rs, fun H' p' => ⟨ks.length - (i + 1), by omega, rfl, hlt, p'⟩, fun x H' y => ?_⟩
    obtain ⟨e2, it⟩ := S.yld i H x H' W.e hlt y
    have hz : ks[i]? = some ks[i] := List.getElem?_eq_getElem hlt
    have znew : ks[i] ∉ ks.take i := fun h => by
      have h2 : (ks.take (i + 1)).Nodup := (List.take_sublist _ _).nodup nd
      rw [take_snoc hz] at h2
      exact (List.nodup_append.mp h2).2.2 _ h _ (List.mem_singleton.mpr rfl) rfl
    have W2 := W.ex e2
    refine hs i ks[i] x H' _ _ hz W2.e it fun p hp => ?_
    refine ⟨_, kS ks[i], rfl, Ex.new hp _ _ W2.hd, by rw [wkv_len, List.length_take]; omega, fun z => if z = ks[i] then p else rs z, ?_⟩
    rw [take_snoc hz]
    exact W2.put znew hp rfl
  · obtain rfl : i = ks.length := by omega
    rw [List.take_length] at W
    exact .inl ⟨S.stop _ H W.e (Nat.le_refl _), hd H rs W⟩
def TupAt (H : Hp) (e : Str × Str) (v : V) : Prop := ∃ q, v = .ref q ∧ H q = some (.tup [.str e.1, .str e.2])
theorem TupAt.oth {H : Hp} {a : Addr} {o : HO} {e : Str × Str} {v : V} (t : TupAt H e v) (ha : ∀ xs, H a ≠ some (.tup xs)) : TupAt (upd H a o) e v := by
  obtain ⟨q, rfl, h⟩ := t
  refine ⟨q, rfl, ?_⟩
  rw [upd_ne fun z => ha _ (z ▸ h)]
  exact h
structure Cw (B H : Hp) (ws : List Str) (L D TK FD : Addr) (rs : Str → Addr) (lf : Str → Nat) (ld : Str → List Str) (es : List (Str × Str)) (vs : List V) (fs : List Str) : Prop where
  bL : B L = none
  bT : B TK = none
  bF : B FD = none
  hL : H L = some (.dK (fkv (fun z => .int (lf z : Int)) ws))
  LD : D ≠ L
  W : Wb B H D (places ws) ld rs
  hT : H TK = some (.lst vs)
  tw : Two (TupAt H) es vs
  hF : H FD = some (.lst (fs.map V.str))
  TF : TK ≠ FD
  rT : ∀ k ∈ places ws, rs k ≠ TK ∧ rs k ≠ FD
section
variable {B H : Hp} {ws : List Str} {L D TK FD : Addr} {rs : Str → Addr} {lf : Str → Nat} {ld : Str → List Str} {es : List (Str × Str)} {vs : List V} {fs : List Str}
theorem Cw.pop1 (C : Cw B H ws L D TK FD rs lf ld es vs fs) {k : Str} {l : List Str} (hk : k ∈ places ws) : Cw B (upd H (rs k) (.lst (l.map V.str))) ws L D TK FD rs lf (fun z => if z = k then l else ld z) es vs fs := by
  have hr := (C.W.row k hk).2
  obtain ⟨n1, n2⟩ := C.rT k hk
  refine ⟨C.bL, C.bT, C.bF, ?_, C.LD, C.W.pop hk, ?_, C.tw.imp fun e v t => t.oth (by rw [hr]; intro xs h; cases h), ?_, C.TF, C.rT⟩
  · rw [upd_ne (ne_of C.hL hr fun z => nomatch z)]
    exact C.hL
  · rw [upd_ne n1.symm]
    exact C.hT
  · rw [upd_ne n2.symm]
    exact C.hF
theorem Cw.dec (C : Cw B H ws L D TK FD rs lf ld es vs fs) (lf' : Str → Nat) : Cw B (upd H L (.dK (fkv (fun z => .int (lf' z : Int)) ws))) ws L D TK FD rs lf' ld es vs fs := by
  refine ⟨C.bL, C.bT, C.bF, upd_same, C.LD, C.W.oth C.bL C.LD (fun k hk => ne_of (C.W.row k hk).2 C.hL (fun z => nomatch z)), ?_, C.tw.imp fun e v t => t.oth (by rw [C.hL]; intro xs h; cases h), ?_, C.TF, C.rT⟩
  · rw [upd_ne (ne_of C.hT C.hL fun z => nomatch z)]
    exact C.hT
  · rw [upd_ne (ne_of C.hF C.hL fun z => nomatch z)]
    exact C.hF
theorem Cw.new (C : Cw B H ws L D TK FD rs lf ld es vs fs) {q : Addr} {o : HO} (hq : H q = none) : Cw B (upd H q o) ws L D TK FD rs lf ld es vs fs := by
  have e := Ex.new (o := o) hq
  exact ⟨C.bL, C.bT, C.bF, e _ _ C.hL, C.LD, C.W.new hq, e _ _ C.hT, C.tw.imp fun a v ⟨p, h1, h2⟩ => ⟨p, h1, e _ _ h2⟩, e _ _ C.hF, C.TF, C.rT⟩
theorem Cw.setT (C : Cw B H ws L D TK FD rs lf ld es vs fs) {es' : List (Str × Str)} {vs' : List V} (t : Two (TupAt H) es' vs') : Cw B (upd H TK (.lst vs')) ws L D TK FD rs lf ld es' vs' fs := by
  refine ⟨C.bL, C.bT, C.bF, ?_, C.LD, C.W.oth C.bT (ne_of C.W.hd C.hT fun z => nomatch z) fun k hk => (C.rT k hk).1, upd_same, t.imp fun e v t => t.oth (by rw [C.hT]; intro xs h; cases h), ?_, C.TF, C.rT⟩
  · rw [upd_ne (ne_of C.hL C.hT fun z => nomatch z)]
    exact C.hL
  · rw [upd_ne C.TF.symm]
    exact C.hF
theorem Cw.add (C : Cw B H ws L D TK FD rs lf ld es vs fs) {x : Str} : Cw B (upd H FD (.lst (fs.map V.str ++ [.str x]))) ws L D TK FD rs lf ld es vs (fs ++ [x]) := by
  refine ⟨C.bL, C.bT, C.bF, ?_, C.LD, C.W.oth C.bF (ne_of C.W.hd C.hF fun z => nomatch z) fun k hk => (C.rT k hk).2, ?_, C.tw.imp fun e v t => t.oth (by rw [C.hF]; intro xs h; cases h), ?_, C.TF, C.rT⟩
  · rw [upd_ne (ne_of C.hL C.hF fun z => nomatch z)]
    exact C.hL
  · rw [upd_ne C.TF]
    exact C.hT
  · rw [upd_same, List.map_append]
    rfl
end
end My

/-! what is read in a ring text: a closed walk; two of unlike letters -/
namespace My
open PySem PySem.Spec PyProof.Rows L2 Evl
theorem cyc_beg (l : List Nat) (i m : Nat) : begS (tx (cyc l i (m + 1))) = tx (cyc l i m) := by
  unfold begS cyc
  rw [sg_tx, List.range_succ, List.map_append]
  show tx (_ ++ [_]).dropLast = _
  rw [List.dropLast_concat]
theorem cyc_end (l : List Nat) (i m : Nat) : endS (tx (cyc l i (m + 1))) = tx (cyc l (i + 1) m) := by
  unfold endS cyc
  rw [sg_tx, List.range_succ_eq_map, List.map_cons, List.drop_succ_cons, List.drop_zero, List.map_map]
  congr 1
  refine List.map_congr_left fun j _ => ?_
  show l.getD ((i + (j + 1)) % l.length) 0 = l.getD ((i + 1 + j) % l.length) 0
  rw [show i + (j + 1) = i + 1 + j by omega]
theorem cyc_turn (l : List Nat) (m : Nat) : cyc l l.length m = cyc l 0 m := by
  unfold cyc
  refine List.map_congr_left fun j _ => ?_
  rw [Nat.zero_add, Nat.add_comm, Nat.add_mod_right]
theorem rnd_walk {ws : List Str} {l : List Nat} {m : Nat} : ∀ (k a : Nat), (∀ i, a ≤ i → i < a + k → tx (cyc l i (m + 1)) ∈ ws) → Path ws (tx (cyc l a m)) ((List.range' a k).map fun i => tx (cyc l i (m + 1))) (tx (cyc l (a + k) m))
  | 0, a, _ => rfl
  | k + 1, a, h => by
    rw [List.range'_succ, List.map_cons]
    refine ⟨h a (Nat.le_refl _) (by omega), cyc_beg l a m, ?_⟩
    rw [cyc_end, show a + (k + 1) = a + 1 + k by omega]
    exact rnd_walk k (a + 1) fun i h1 h2 => h i (by omega) (by omega)
theorem rnd_path {ws : List Str} {n : Nat} {r : Str} (hn : 1 ≤ n) (h : ∀ x ∈ rnd n r, x ∈ ws) : ∃ s, Path ws s (rnd n r) s := by
  obtain ⟨m, rfl⟩ : ∃ m, n = m + 1 := ⟨n - 1, by omega⟩
  have p := rnd_walk (ws := ws) (l := sg r) (m := m) r.length 0 fun i _ hi => h _ (by
    unfold rnd
    exact List.mem_map.mpr ⟨i, List.mem_range.mpr (by omega), rfl⟩)
  rw [Nat.zero_add, show r.length = (sg r).length from rfl, cyc_turn] at p
  refine ⟨tx (cyc (sg r) 0 m), ?_⟩
  unfold rnd
  rw [List.range_eq_range']
  exact p
theorem rnd_bal {ws : List Str} {n : Nat} {r : Str} (nd : ws.Nodup) (hn : 1 ≤ n) (h : ∀ x ∈ rnd n r, x ∈ ws) : Bal ws ((rnd n r).count ·) := by
  obtain ⟨s, p⟩ := rnd_path hn h
  exact cl_bal nd p
theorem rnd_rep {n k : Nat} {r : Str} (h1 : 1 ≤ r.length) : ∀ x ∈ rnd n (tx (rep k (sg r))), x ∈ rnd n r := fun x hx => by
  obtain ⟨i, hi, rfl⟩ := List.mem_map.mp hx
  have lr : (tx (rep k (sg r))).length = k * r.length := rep_len _ _
  have hi := List.mem_range.mp hi
  rw [lr] at hi
  have L0 : 0 < (sg r).length := h1
  refine List.mem_map.mpr ⟨i % r.length, List.mem_range.mpr (Nat.mod_lt _ h1), ?_⟩
  congr 1
  rw [sg_tx]
  unfold cyc
  refine List.map_congr_left fun j _ => ?_
  have kl : 0 < k * (sg r).length := by
    have : k * (sg r).length = k * r.length := rfl
    omega
  rw [rep_len, List.getD_eq_getElem?_getD (l := rep k (sg r)), rep_get (Nat.mod_lt _ kl)]
  show (sg r).getD ((i % r.length + j) % (sg r).length) 0 = (sg r).getD ((i + j) % (k * (sg r).length) % (sg r).length) 0
  rw [Nat.mod_mod_of_dvd _ (Nat.dvd_mul_left _ _), show r.length = (sg r).length from rfl, Nat.mod_add_mod]
/-- letters up to a bound -/
def Low (x : Str) : Prop := ∀ c ∈ sg x, c ≤ 104
def High (x : Str) : Prop := ∀ c ∈ sg x, 105 ≤ c
theorem apart {L : List Str} {x y : Str} (h : ∀ z ∈ L, 2 ≤ z.length ∧ (Low z ∨ High z)) (hx : x ∈ L) (hy : y ∈ L) (lx : Low x) (hh : High y) : ¬ Hang L := fun g => by
  have bl : ∀ z : Str, Low z → Low (begS z) := fun z hz c hc => hz c (List.dropLast_subset _ hc)
  have el : ∀ z : Str, Low z → Low (endS z) := fun z hz c hc => hz c (List.mem_of_mem_drop hc)
  have bh : ∀ z : Str, High z → High (begS z) := fun z hz c hc => hz c (List.dropLast_subset _ hc)
  have both : ∀ p : Str, 1 ≤ p.length → Low p → High p → False := fun p h1 h2 h3 => by
    have h0 : 0 < (sg p).length := h1
    have a := h2 _ (List.getElem_mem h0)
    have b := h3 _ (List.getElem_mem h0)
    omega
  have keep : ∀ q, Rch (nxts L) (begS x) q → Low q := fun q r => by
    induction r with
    | refl => exact bl x lx
    | step _ h2 ih =>
      obtain ⟨z, hz, e1, e2⟩ := nxts_mem.mp h2
      obtain ⟨h3, h4⟩ := h z hz
      rcases h4 with h4 | h4
      · rw [← e2]
        exact el z h4
      · rw [← e1] at ih
        exact (both (begS z) (by rw [len_beg]; omega) ih (bh z h4)).elim
  exact both (begS y) (by rw [len_beg]; have := (h y hy).1; omega) (keep _ (g _ (beg_mem hx) _ (beg_mem hy))) (bh y hh)
end My

namespace My
open PySem PySem.Spec PyProof.Rows L2 Evl
def topS (i : Nat) : Stmt := PySem.Challenge.pw_surepieces_k54_whole_rings_of_closed_wal.main.body.getD i (.Pass ⟨0, 0, 0, 0⟩)
abbrev s_is_integer : Stmt := topS 10
abbrev n_is_integer : List Str := ["value"]
theorem sc_is_integer : FnScope n_is_integer ["value"] (defScope s_is_integer) := ⟨rfl, rfl, rfl, by decide +kernel, rfl, by decide +kernel, by decide +kernel⟩
abbrev s_anew : Stmt := topS 11
abbrev n_anew : List Str := ["value", "part"]
theorem sc_anew : FnScope n_anew ["value"] (defScope s_anew) := ⟨rfl, rfl, rfl, by decide +kernel, rfl, by decide +kernel, by decide +kernel⟩
abbrev s_are_ascending : Stmt := topS 12
abbrev n_are_ascending : List Str := ["values", "at"]
theorem sc_are_ascending : FnScope n_are_ascending ["values"] (defScope s_are_ascending) := ⟨rfl, rfl, rfl, by decide +kernel, rfl, by decide +kernel, by decide +kernel⟩
abbrev s_is_word : Stmt := topS 13
abbrev n_is_word : List Str := ["value", "sign"]
theorem sc_is_word : FnScope n_is_word ["value"] (defScope s_is_word) := ⟨rfl, rfl, rfl, by decide +kernel, rfl, by decide +kernel, by decide +kernel⟩
abbrev s_is_size : Stmt := topS 14
abbrev n_is_size : List Str := ["value"]
theorem sc_is_size : FnScope n_is_size ["value"] (defScope s_is_size) := ⟨rfl, rfl, rfl, by decide +kernel, rfl, by decide +kernel, by decide +kernel⟩
abbrev s_are_windows : Stmt := topS 15
abbrev n_are_windows : List Str := ["size", "value", "window"]
theorem sc_are_windows : FnScope n_are_windows ["size", "value"] (defScope s_are_windows) := ⟨rfl, rfl, rfl, by decide +kernel, rfl, by decide +kernel, by decide +kernel⟩
abbrev s_is_a_book : Stmt := topS 16
abbrev n_is_a_book : List Str := ["value"]
theorem sc_is_a_book : FnScope n_is_a_book ["value"] (defScope s_is_a_book) := ⟨rfl, rfl, rfl, by decide +kernel, rfl, by decide +kernel, by decide +kernel⟩
abbrev s_is_a_ring : Stmt := topS 17
abbrev n_is_a_ring : List Str := ["value"]
theorem sc_is_a_ring : FnScope n_is_a_ring ["value"] (defScope s_is_a_ring) := ⟨rfl, rfl, rfl, by decide +kernel, rfl, by decide +kernel, by decide +kernel⟩
abbrev s_round_steps : Stmt := topS 18
abbrev n_round_steps : List Str := ["size", "ring", "longer", "at"]
theorem sc_round_steps : FnScope n_round_steps ["size", "ring"] (defScope s_round_steps) := ⟨rfl, rfl, rfl, by decide +kernel, rfl, by decide +kernel, by decide +kernel⟩
abbrev s_places_of : Stmt := topS 19
abbrev n_places_of : List Str := ["book", "found", "window"]
theorem sc_places_of : FnScope n_places_of ["book"] (defScope s_places_of) := ⟨rfl, rfl, rfl, by decide +kernel, rfl, by decide +kernel, by decide +kernel⟩
abbrev s_need_book : Stmt := topS 20
abbrev n_need_book : List Str := ["book"]
theorem sc_need_book : FnScope n_need_book ["book"] (defScope s_need_book) := ⟨rfl, rfl, rfl, by decide +kernel, rfl, by decide +kernel, by decide +kernel⟩
abbrev s_need_ring : Stmt := topS 21
abbrev n_need_ring : List Str := ["ring"]
theorem sc_need_ring : FnScope n_need_ring ["ring"] (defScope s_need_ring) := ⟨rfl, rfl, rfl, by decide +kernel, rfl, by decide +kernel, by decide +kernel⟩
abbrev s_begin_of : Stmt := topS 23
abbrev n_begin_of : List Str := ["window"]
theorem sc_begin_of : FnScope n_begin_of ["window"] (defScope s_begin_of) := ⟨rfl, rfl, rfl, by decide +kernel, rfl, by decide +kernel, by decide +kernel⟩
abbrev s_end_of : Stmt := topS 24
abbrev n_end_of : List Str := ["window"]
theorem sc_end_of : FnScope n_end_of ["window"] (defScope s_end_of) := ⟨rfl, rfl, rfl, by decide +kernel, rfl, by decide +kernel, by decide +kernel⟩
abbrev s_windows_out : Stmt := topS 25
abbrev n_windows_out : List Str := ["book", "found", "window", "spot", "row"]
theorem sc_windows_out : FnScope n_windows_out ["book"] (defScope s_windows_out) := ⟨rfl, rfl, rfl, by decide +kernel, rfl, by decide +kernel, by decide +kernel⟩
abbrev s_places_from : Stmt := topS 27
abbrev n_places_from : List Str := ["book", "spot", "ways_out", "found", "waiting", "window"]
theorem sc_places_from : FnScope n_places_from ["book", "spot"] (defScope s_places_from) := ⟨rfl, rfl, rfl, by decide +kernel, rfl, by decide +kernel, by decide +kernel⟩
abbrev s_a_closed_lot : Stmt := topS 28
abbrev n_a_closed_lot : List Str := ["book", "every", "spot", "found"]
theorem sc_a_closed_lot : FnScope n_a_closed_lot ["book"] (defScope s_a_closed_lot) := ⟨rfl, rfl, rfl, by decide +kernel, rfl, by decide +kernel, by decide +kernel⟩
abbrev s_has_ring : Stmt := topS 30
abbrev n_has_ring : List Str := ["book"]
theorem sc_has_ring : FnScope n_has_ring ["book"] (defScope s_has_ring) := ⟨rfl, rfl, rfl, by decide +kernel, rfl, by decide +kernel, by decide +kernel⟩
abbrev s_ends_of : Stmt := topS 32
abbrev n_ends_of : List Str := ["book", "numbers", "at", "spot", "window"]
theorem sc_ends_of : FnScope n_ends_of ["book"] (defScope s_ends_of) := ⟨rfl, rfl, rfl, by decide +kernel, rfl, by decide +kernel, by decide +kernel⟩
abbrev s_excesses : Stmt := topS 33
abbrev n_excesses : List Str := ["size", "ends", "counts", "found", "first", "last", "count"]
theorem sc_excesses : FnScope n_excesses ["size", "ends", "counts"] (defScope s_excesses) := ⟨rfl, rfl, rfl, by decide +kernel, rfl, by decide +kernel, by decide +kernel⟩
abbrev s_are_counts : Stmt := topS 35
abbrev n_are_counts : List Str := ["book", "value", "count"]
theorem sc_are_counts : FnScope n_are_counts ["book", "value"] (defScope s_are_counts) := ⟨rfl, rfl, rfl, by decide +kernel, rfl, by decide +kernel, by decide +kernel⟩
abbrev s_need_counts : Stmt := topS 36
abbrev n_need_counts : List Str := ["book", "counts"]
theorem sc_need_counts : FnScope n_need_counts ["book", "counts"] (defScope s_need_counts) := ⟨rfl, rfl, rfl, by decide +kernel, rfl, by decide +kernel, by decide +kernel⟩
abbrev s_are_balanced : Stmt := topS 37
abbrev n_are_balanced : List Str := ["book", "counts", "extra"]
theorem sc_are_balanced : FnScope n_are_balanced ["book", "counts"] (defScope s_are_balanced) := ⟨rfl, rfl, rfl, by decide +kernel, rfl, by decide +kernel, by decide +kernel⟩
abbrev s_counts_of : Stmt := topS 38
abbrev n_counts_of : List Str := ["book", "ring", "found", "step", "window"]
theorem sc_counts_of : FnScope n_counts_of ["book", "ring"] (defScope s_counts_of) := ⟨rfl, rfl, rfl, by decide +kernel, rfl, by decide +kernel, by decide +kernel⟩
abbrev s_balance : Stmt := topS 39
abbrev n_balance : List Str := ["book", "counts"]
theorem sc_balance : FnScope n_balance ["book", "counts"] (defScope s_balance) := ⟨rfl, rfl, rfl, by decide +kernel, rfl, by decide +kernel, by decide +kernel⟩
abbrev s_closed_walk : Stmt := topS 40
abbrev n_closed_walk : List Str := ["book", "counts", "left", "leads", "window", "start", "taken", "found", "here", "last", "spot"]
theorem sc_closed_walk : FnScope n_closed_walk ["book", "counts"] (defScope s_closed_walk) := ⟨rfl, rfl, rfl, by decide +kernel, rfl, by decide +kernel, by decide +kernel⟩
abbrev s_ring_with : Stmt := topS 41
abbrev n_ring_with : List Str := ["book", "counts", "held", "window", "count"]
theorem sc_ring_with : FnScope n_ring_with ["book", "counts"] (defScope s_ring_with) := ⟨rfl, rfl, rfl, by decide +kernel, rfl, by decide +kernel, by decide +kernel⟩
abbrev s_ring_of : Stmt := topS 42
abbrev n_ring_of : List Str := ["book", "counts"]
theorem sc_ring_of : FnScope n_ring_of ["book", "counts"] (defScope s_ring_of) := ⟨rfl, rfl, rfl, by decide +kernel, rfl, by decide +kernel, by decide +kernel⟩
abbrev s_law_well : Stmt := topS 44
abbrev n_law_well : List Str := ["script", "k", "cell", "blend"]
theorem sc_law_well : FnScope n_law_well ["script", "k"] (defScope s_law_well) := ⟨rfl, rfl, rfl, by decide +kernel, rfl, by decide +kernel, by decide +kernel⟩
abbrev s_law_take : Stmt := topS 45
abbrev n_law_take : List Str := ["well", "size", "found", "mixed"]
theorem sc_law_take : FnScope n_law_take ["well", "size"] (defScope s_law_take) := ⟨rfl, rfl, rfl, by decide +kernel, rfl, by decide +kernel, by decide +kernel⟩
abbrev s_law_pick : Stmt := topS 46
abbrev n_law_pick : List Str := ["well", "things"]
theorem sc_law_pick : FnScope n_law_pick ["well", "things"] (defScope s_law_pick) := ⟨rfl, rfl, rfl, by decide +kernel, rfl, by decide +kernel, by decide +kernel⟩
abbrev s_law_read : Stmt := topS 47
abbrev n_law_read : List Str := ["size", "ring", "turns", "at"]
theorem sc_law_read : FnScope n_law_read ["size", "ring"] (defScope s_law_read) := ⟨rfl, rfl, rfl, by decide +kernel, rfl, by decide +kernel, by decide +kernel⟩
abbrev s_law_ring : Stmt := topS 48
abbrev n_law_ring : List Str := ["well", "most", "letters", "turn"]
theorem sc_law_ring : FnScope n_law_ring ["well", "most"] (defScope s_law_ring) := ⟨rfl, rfl, rfl, by decide +kernel, rfl, by decide +kernel, by decide +kernel⟩
abbrev s_law_rounds : Stmt := topS 49
abbrev n_law_rounds : List Str := ["well", "most", "letters", "found", "last", "turn", "i", "j"]
theorem sc_law_rounds : FnScope n_law_rounds ["well", "most"] (defScope s_law_rounds) := ⟨rfl, rfl, rfl, by decide +kernel, rfl, by decide +kernel, by decide +kernel⟩
abbrev s_law_house : Stmt := topS 50
abbrev n_law_house : List Str := ["well", "most", "size", "rounds", "turn", "ring"]
theorem sc_law_house : FnScope n_law_house ["well", "most"] (defScope s_law_house) := ⟨rfl, rfl, rfl, by decide +kernel, rfl, by decide +kernel, by decide +kernel⟩
abbrev s_law_web : Stmt := topS 51
abbrev n_law_web : List Str := ["well", "most", "size", "windows", "ring", "texts", "turn", "letter"]
theorem sc_law_web : FnScope n_law_web ["well", "most"] (defScope s_law_web) := ⟨rfl, rfl, rfl, by decide +kernel, rfl, by decide +kernel, by decide +kernel⟩
abbrev s_law_wide : Stmt := topS 52
abbrev n_law_wide : List Str := ["well", "size"]
theorem sc_law_wide : FnScope n_law_wide ["well"] (defScope s_law_wide) := ⟨rfl, rfl, rfl, by decide +kernel, rfl, by decide +kernel, by decide +kernel⟩
abbrev s_law_spots : Stmt := topS 53
abbrev n_law_spots : List Str := ["book", "window"]
theorem sc_law_spots : FnScope n_law_spots ["book"] (defScope s_law_spots) := ⟨rfl, rfl, rfl, by decide +kernel, rfl, by decide +kernel, by decide +kernel⟩
abbrev s_law_extra : Stmt := topS 54
abbrev n_law_extra : List Str := ["book", "counts", "found", "window", "count", "spot"]
theorem sc_law_extra : FnScope n_law_extra ["book", "counts"] (defScope s_law_extra) := ⟨rfl, rfl, rfl, by decide +kernel, rfl, by decide +kernel, by decide +kernel⟩
abbrev s_law_balanced : Stmt := topS 55
abbrev n_law_balanced : List Str := ["book", "counts", "extra", "spot"]
theorem sc_law_balanced : FnScope n_law_balanced ["book", "counts"] (defScope s_law_balanced) := ⟨rfl, rfl, rfl, by decide +kernel, rfl, by decide +kernel, by decide +kernel⟩
abbrev s_law_counted : Stmt := topS 56
abbrev n_law_counted : List Str := ["book", "ring", "found", "step", "window"]
theorem sc_law_counted : FnScope n_law_counted ["book", "ring"] (defScope s_law_counted) := ⟨rfl, rfl, rfl, by decide +kernel, rfl, by decide +kernel, by decide +kernel⟩
abbrev s_law_stroll : Stmt := topS 57
abbrev n_law_stroll : List Str := ["well", "book", "most", "start", "steps", "met", "ways", "loop", "window"]
theorem sc_law_stroll : FnScope n_law_stroll ["well", "book", "most"] (defScope s_law_stroll) := ⟨rfl, rfl, rfl, by decide +kernel, rfl, by decide +kernel, by decide +kernel⟩
abbrev s_law_together : Stmt := topS 58
abbrev n_law_together : List Str := ["book", "counts", "window", "held", "way", "row", "met", "here", "near", "count"]
theorem sc_law_together : FnScope n_law_together ["book", "counts"] (defScope s_law_together) := ⟨rfl, rfl, rfl, by decide +kernel, rfl, by decide +kernel, by decide +kernel⟩
abbrev s_law_told : Stmt := topS 59
abbrev n_law_told : List Str := ["book", "counts", "named"]
theorem sc_law_told : FnScope n_law_told ["book", "counts", "named"] (defScope s_law_told) := ⟨rfl, rfl, rfl, by decide +kernel, rfl, by decide +kernel, by decide +kernel⟩
abbrev s_law_right : Stmt := topS 60
abbrev n_law_right : List Str := ["book", "counts", "named", "steps", "way", "told", "window", "step"]
theorem sc_law_right : FnScope n_law_right ["book", "counts", "named"] (defScope s_law_right) := ⟨rfl, rfl, rfl, by decide +kernel, rfl, by decide +kernel, by decide +kernel⟩
abbrev s_law_sum : Stmt := topS 61
abbrev n_law_sum : List Str := ["well", "book", "found", "turn", "walk", "room", "times", "one", "other"]
theorem sc_law_sum : FnScope n_law_sum ["well", "book"] (defScope s_law_sum) := ⟨rfl, rfl, rfl, by decide +kernel, rfl, by decide +kernel, by decide +kernel⟩
abbrev s_law_renamed : Stmt := topS 62
abbrev n_law_renamed : List Str := ["ring", "letters", "known", "letter"]
theorem sc_law_renamed : FnScope n_law_renamed ["ring", "letters"] (defScope s_law_renamed) := ⟨rfl, rfl, rfl, by decide +kernel, rfl, by decide +kernel, by decide +kernel⟩
abbrev s_law_sides_right : Stmt := topS 63
abbrev n_law_sides_right : List Str := ["well", "named", "size", "one", "other", "first", "second", "both", "times", "counts", "great", "whole", "joined_book", "window", "count"]
theorem sc_law_sides_right : FnScope n_law_sides_right ["well", "named"] (defScope s_law_sides_right) := ⟨rfl, rfl, rfl, by decide +kernel, rfl, by decide +kernel, by decide +kernel⟩
abbrev s_law_none_right : Stmt := topS 64
abbrev n_law_none_right : List Str := ["well", "book", "counts", "named", "at", "spans", "times", "off", "window", "count"]
theorem sc_law_none_right : FnScope n_law_none_right ["well", "book", "counts", "named"] (defScope s_law_none_right) := ⟨rfl, rfl, rfl, by decide +kernel, rfl, by decide +kernel, by decide +kernel⟩
abbrev s_law : Stmt := topS 65
abbrev n_law : List Str := ["script", "k", "well", "book", "named", "turn", "counts", "mine", "ring"]
theorem sc_law : FnScope n_law ["script"] (defScope s_law) := ⟨rfl, rfl, rfl, by decide +kernel, rfl, by decide +kernel, by decide +kernel⟩
/-- what the top has left -/
structure Tx (K : PySem.W.Frag) (mg : Str → Option Value) : Prop where
  d_is_integer : DefAt K mg "is_integer" s_is_integer ["value"]
  d_anew : DefAt K mg "anew" s_anew ["value"]
  d_are_ascending : DefAt K mg "are_ascending" s_are_ascending ["values"]
  d_is_word : DefAt K mg "is_word" s_is_word ["value"]
  d_is_size : DefAt K mg "is_size" s_is_size ["value"]
  d_are_windows : DefAt K mg "are_windows" s_are_windows ["size", "value"]
  d_is_a_book : DefAt K mg "is_a_book" s_is_a_book ["value"]
  d_is_a_ring : DefAt K mg "is_a_ring" s_is_a_ring ["value"]
  d_round_steps : DefAt K mg "round_steps" s_round_steps ["size", "ring"]
  d_places_of : DefAt K mg "places_of" s_places_of ["book"]
  d_need_book : DefAt K mg "need_book" s_need_book ["book"]
  d_need_ring : DefAt K mg "need_ring" s_need_ring ["ring"]
  d_begin_of : DefAt K mg "begin_of" s_begin_of ["window"]
  d_end_of : DefAt K mg "end_of" s_end_of ["window"]
  d_windows_out : DefAt K mg "windows_out" s_windows_out ["book"]
  d_places_from : DefAt K mg "places_from" s_places_from ["book", "spot"]
  d_a_closed_lot : DefAt K mg "a_closed_lot" s_a_closed_lot ["book"]
  d_has_ring : DefAt K mg "has_ring" s_has_ring ["book"]
  d_ends_of : DefAt K mg "ends_of" s_ends_of ["book"]
  d_excesses : DefAt K mg "excesses" s_excesses ["size", "ends", "counts"]
  d_are_counts : DefAt K mg "are_counts" s_are_counts ["book", "value"]
  d_need_counts : DefAt K mg "need_counts" s_need_counts ["book", "counts"]
  d_are_balanced : DefAt K mg "are_balanced" s_are_balanced ["book", "counts"]
  d_counts_of : DefAt K mg "counts_of" s_counts_of ["book", "ring"]
  d_balance : DefAt K mg "balance" s_balance ["book", "counts"]
  d_closed_walk : DefAt K mg "closed_walk" s_closed_walk ["book", "counts"]
  d_ring_with : DefAt K mg "ring_with" s_ring_with ["book", "counts"]
  d_ring_of : DefAt K mg "ring_of" s_ring_of ["book", "counts"]
  d_law_well : DefAt K mg "_law_well" s_law_well ["script", "k"]
  d_law_take : DefAt K mg "_law_take" s_law_take ["well", "size"]
  d_law_pick : DefAt K mg "_law_pick" s_law_pick ["well", "things"]
  d_law_read : DefAt K mg "_law_read" s_law_read ["size", "ring"]
  d_law_ring : DefAt K mg "_law_ring" s_law_ring ["well", "most"]
  d_law_rounds : DefAt K mg "_law_rounds" s_law_rounds ["well", "most"]
  d_law_house : DefAt K mg "_law_house" s_law_house ["well", "most"]
  d_law_web : DefAt K mg "_law_web" s_law_web ["well", "most"]
  d_law_wide : DefAt K mg "_law_wide" s_law_wide ["well"]
  d_law_spots : DefAt K mg "_law_spots" s_law_spots ["book"]
  d_law_extra : DefAt K mg "_law_extra" s_law_extra ["book", "counts"]
  d_law_balanced : DefAt K mg "_law_balanced" s_law_balanced ["book", "counts"]
  d_law_counted : DefAt K mg "_law_counted" s_law_counted ["book", "ring"]
  d_law_stroll : DefAt K mg "_law_stroll" s_law_stroll ["well", "book", "most"]
  d_law_together : DefAt K mg "_law_together" s_law_together ["book", "counts"]
  d_law_told : DefAt K mg "_law_told" s_law_told ["book", "counts", "named"]
  d_law_right : DefAt K mg "_law_right" s_law_right ["book", "counts", "named"]
  d_law_sum : DefAt K mg "_law_sum" s_law_sum ["well", "book"]
  d_law_renamed : DefAt K mg "_law_renamed" s_law_renamed ["ring", "letters"]
  d_law_sides_right : DefAt K mg "_law_sides_right" s_law_sides_right ["well", "named"]
  d_law_none_right : DefAt K mg "_law_none_right" s_law_none_right ["well", "book", "counts", "named"]
  d_law : DefAt K mg "law" s_law ["script"]
  k_ring_of_counts_book : KbAt K mg "ring_of" ["book", "counts"] ["counts", "book"] [1, 0]
  b_range : mg "range" = none
  b_len : mg "len" = none
  b_max : mg "max" = none
  b_min : mg "min" = none
  b_abs : mg "abs" = none
  b_int : mg "int" = none
  b_sorted : mg "sorted" = none
  b_tuple : mg "tuple" = none
  b_list : mg "list" = none
  b_all : mg "all" = none
  b_isinstance : mg "isinstance" = none
  b_enumerate : mg "enumerate" = none
  b_zip : mg "zip" = none
  b_str : mg "str" = none
  b_sum : mg "sum" = none
  b_dict : mg "dict" = none
  b_set : mg "set" = none
  b_bool : mg "bool" = none
  g_LETTERS : ∃ t, mg "LETTERS" = some (.str "abcdefghijklmnopqrstuvwxyz" t)
  g_LEAST_SIZE : ∃ t, mg "LEAST_SIZE" = some (.int (2) t)
  g_MOST_SIZE : ∃ t, mg "MOST_SIZE" = some (.int (6) t)
/-! ### values: numbers, words, windows, books -/
local macro_rules | `(tactic| walk_at "sq") => `(tactic| first | assumption | (refine ex_t ?_ ?_ <;> assumption) | (refine ex_l ?_ ?_ <;> assumption))
local macro_rules | `(tactic| walk_at "go") => `(tactic| repeat (first
  | refine ⟨_, rfl, ?_⟩
  | refine ⟨_, _, rfl, rfl, ?_⟩
  | refine ⟨_, _, rfl, .inr (by walk_at "sq"), ?_⟩
  | refine ⟨_, _, rfl, .inl (by walk_at "sq"), ?_⟩))
section
variable {P : Program} {w : World} {K : PySem.W.Frag} {mg : Str → Option Value} {base : Heap}
def sp_is_integer : Sp := fun vs H Q _ => ∃ i, vs = [.int i] ∧ Q (.bl true) H
theorem ok_is_integer (T : Tx K mg) : Ok P w K mg base CX0 1 "is_integer" ["value"] sp_is_integer := by
  refine T.d_is_integer.ok sc_is_integer (fun vs H Q E h => ?_) (fun f cdv A outer s H vs Q E hG hr h => ?_)
  · obtain ⟨i, rfl, _⟩ := h
    rfl
  · obtain ⟨i, rfl, q⟩ := h
    refine ⟨_, (pss_one (ps_ret (pe_and (pe_callB (call_isiK2 (K := K)) (by rfl) T.b_isinstance (by decide +kernel) (pa_cons (pv 0) (pa_cons (pe_gty (T := "int") T.b_int (by decide +kernel)) pa_nil))) (pe_one (pe_not (pe_callB (call_isiK2 (K := K)) (by rfl) T.b_isinstance (by decide +kernel) (pa_cons (pv 0) (pa_cons (pe_gty (T := "bool") T.b_bool (by decide +kernel)) pa_nil)))))))), ?_⟩
    refine ⟨_, rfl, _, _, _, _, true, rfl, .ty _, .base (.int i), kit_ty (by decide +kernel), true, rfl, ?_⟩
    exact ⟨_, rfl, _, _, _, _, false, rfl, .ty _, .base (.int i), kit_ty (by decide +kernel), false, rfl, q⟩
def sp_are_ascending (K : PySem.W.Frag) : Sp := fun vs H Q _ => ∃ a ws, vs = [.ref a] ∧ SqT K H a (ws.map V.str) ∧ Asc ws ∧ ws.length ≤ 1000 ∧ RetD K (.bool true) H Q
theorem ok_are_ascending (T : Tx K mg) : Ok P w K mg base CX0 1 "are_ascending" ["values"] (sp_are_ascending K) := by
  refine T.d_are_ascending.ok sc_are_ascending (fun vs H Q E h => ?_) (fun f cdv A outer s H vs Q E hG hr h => ?_)
  · obtain ⟨a, ws, rfl, _⟩ := h
    rfl
  · obtain ⟨a, ws, rfl, hS, hA, hl, q⟩ := h
    refine ⟨_, (pss_one (ps_ret (pe_callB (cr_allK (K := K) rfl) (by rfl) T.b_all (by decide +kernel) (pa_cons (pe_lc (own := [("at", 1)]) (g := gName 1) (tt := tYes) rfl sc_are_ascending.nd (pi_range1 (by rfl) T.b_range (pa_cons (pe_op op_sub (pe_callB (call_lenK (K := K)) (by rfl) T.b_len PySem.boot_len (pa_cons (pv 0) pa_nil)) pe_int) pa_nil)) (blkOk_by (own := [("at", 1)]) (N := n_are_ascending) (sc := defScope s_are_ascending) (by decide +kernel)) (fun _ _ _ _ _ => pg_name (i := 1) sc_are_ascending.nd rfl (Or.inl rfl)) (fun _ _ _ _ _ => pts_nil) (fun _ _ _ _ _ => (pe_cmpR op_lt_str (pe_ix (ix_tupK (K := K)) (pv 0) (pv 1) (fun _ _ => rfl)) (pe_ix (ix_tupK (K := K)) (pv 0) (pe_op op_add (pv 1) pe_int) (fun _ _ => rfl)) (nomark _)))) pa_nil)))), ?_⟩
    have hlen : (ws.map V.str).length = ws.length := List.length_map ..
    walk_at "go"
    refine ⟨by omega, by omega, fun D np => ?_⟩
    refine lc_rng K (fun _ => true) (fun _ => .bool true) np (by omega) (fun _ _ => rfl) (fun i x H2 Y Z hi e it hy _ => ?_) (fun H' acc e hp hd => ?_)
    · subst it
      have h1 : i < ws.length := by omega
      have h2 : i + 1 < ws.length := by omega
      refine ⟨rfl, lc_yes ?_⟩
      refine ⟨_, rfl, _, rfl, _, _, _, _, rfl, rfl, ex_t e hS, atI_of (j := i) (by omega) (get_map h1), ?_⟩
      refine ⟨_, rfl, _, rfl, _, _, rfl, rfl, _, _, _, _, rfl, rfl, ex_t e hS, atI_of (j := i + 1) (by omega) (get_map h2), ?_⟩
      refine ⟨_, _, rfl, rfl, hy rfl _ _ (Ex.refl _) ?_⟩
      have hlt : sg ws[i] < sg ws[i + 1] := List.pairwise_iff_getElem.mp hA i (i + 1) h1 h2 (by omega)
      rw [show decide (ws[i].cps.toList < ws[i + 1].cps.toList) = true from decide_eq_true hlt]
      exact .bl true
    · rw [givenD_all] at hd
      have hb : acc = ((List.range ((ws.map V.str).length - 1 : Int).toNat).map fun _ => true).map V.bl := bls_dpa (by rw [List.map_map]; exact hd)
      subst hb
      refine ⟨_, _, rfl, SqL.of hp, q _ _ e ?_⟩
      rw [show (((List.range ((ws.map V.str).length - 1 : Int).toNat).map fun _ => true).all id) = true from List.all_eq_true.mpr fun b hb => by
        obtain ⟨_, _, rfl⟩ := List.mem_map.mp hb
        rfl]
      exact .bl true
end
section
variable {P : Program} {w : World} {K : PySem.W.Frag} {mg : Str → Option Value} {base : Heap}
/-- whether a text is of small letters -/
def wordB (x : Str) : Bool := (sg x).all fun c => decide (97 ≤ c ∧ c ≤ 122)
theorem wordB_of {x : Str} (h : Word x) : wordB x = true := List.all_eq_true.mpr fun c hc => decide_eq_true (h c hc)
theorem wordB_word {x : Str} (h : wordB x = true) : Word x := fun c hc => of_decide_eq_true (List.all_eq_true.mp h c hc)
def sp_is_word (K : PySem.W.Frag) : Sp := fun vs H Q _ => ∃ x, vs = [.str x] ∧ x.length ≤ 100000 ∧ RetD K (.bool (wordB x)) H Q
theorem ok_is_word (T : Tx K mg) : Ok P w K mg base CX0 1 "is_word" ["value"] (sp_is_word K) := by
  refine T.d_is_word.ok sc_is_word (fun vs H Q E h => ?_) (fun f cdv A outer s H vs Q E hG hr h => ?_)
  · obtain ⟨x, rfl, _⟩ := h
    rfl
  · obtain ⟨x, rfl, hl, q⟩ := h
    refine ⟨_, (pss_one (ps_ret (pe_and (pe_callB (call_isiK2 (K := K)) (by rfl) T.b_isinstance (by decide +kernel) (pa_cons (pv 0) (pa_cons (pe_gty (T := "str") T.b_str (by decide +kernel)) pa_nil))) (pe_one (pe_callB (cr_allK (K := K) rfl) (by rfl) T.b_all (by decide +kernel) (pa_cons (pe_lc (own := [("sign", 1)]) (g := gName 1) (tt := tYes) rfl sc_is_word.nd (pi_str (pv 0)) (blkOk_by (own := [("sign", 1)]) (N := n_is_word) (sc := defScope s_is_word) (by decide +kernel)) (fun _ _ _ _ _ => pg_name (i := 1) sc_is_word.nd rfl (Or.inl rfl)) (fun _ _ _ _ _ => pts_nil) (fun _ _ _ _ _ => (pe_cmpR op_in_sign (pv 1) (pe_gstr T.g_LETTERS) (by rfl)))) pa_nil)))))), ?_⟩
    have hc : x.cps.size = x.length := rfl
    refine ⟨_, rfl, _, _, _, _, true, rfl, .ty _, .base (.str x), kit_ty (by decide +kernel), true, rfl, iteT ?_⟩
    refine ⟨_, rfl, x, rfl, fun D np => ?_⟩
    refine lc_st K (fun _ => true) (fun i => .bool (decide (97 ≤ (sg x).getD i 0 ∧ (sg x).getD i 0 ≤ 122))) np (by omega) (fun _ _ => rfl) (fun i v H2 Y Z hi e it hy _ => ?_) (fun H' acc e hp hd => ?_)
    · obtain ⟨c, hc, rfl⟩ := it
      have hg : (sg x).getD i 0 = c := by
        unfold sg
        rw [List.getD_eq_getElem?_getD, Array.getElem?_toList, hc]
        rfl
      refine ⟨rfl, lc_yes ?_⟩
      refine ⟨_, rfl, c, _, rfl, rfl, hy rfl _ _ (Ex.refl _) ?_⟩
      have e1 : decide (c ∈ (("abcdefghijklmnopqrstuvwxyz" : String) : Str).cps.toList) = decide (97 ≤ c ∧ c ≤ 122) := word_in c
      show Dp K H2 (.bl (decide (c ∈ (("abcdefghijklmnopqrstuvwxyz" : String) : Str).cps.toList))) (.bool (decide (97 ≤ (sg x).getD i 0 ∧ (sg x).getD i 0 ≤ 122)))
      rw [e1, hg]
      exact .bl _
    · rw [givenD_all] at hd
      have hb : acc = ((List.range x.cps.size).map fun i => decide (97 ≤ (sg x).getD i 0 ∧ (sg x).getD i 0 ≤ 122)).map V.bl := bls_dpa (by rw [List.map_map]; exact hd)
      subst hb
      refine ⟨_, _, rfl, SqL.of hp, q _ _ e ?_⟩
      have eq : ((List.range x.cps.size).map fun i => decide (97 ≤ (sg x).getD i 0 ∧ (sg x).getD i 0 ≤ 122)).all id = wordB x := by
        have : (List.range x.cps.size).map (fun i => decide (97 ≤ (sg x).getD i 0 ∧ (sg x).getD i 0 ≤ 122)) = (sg x).map fun c => decide (97 ≤ c ∧ c ≤ 122) := by
          apply List.ext_getElem
          · simp [sg]
          · intro i h1 h2
            simp only [List.getElem_map, List.getElem_range]
            have hi : i < (sg x).length := by simpa using h2
            rw [List.getD_eq_getElem?_getD, List.getElem?_eq_getElem hi]
            rfl
        rw [this, List.all_map]
        rfl
      rw [eq]
      exact .bl _
def sp_is_size : Sp := fun vs H Q _ => ∃ n : Int, vs = [.int n] ∧ 2 ≤ n ∧ n ≤ 6 ∧ Q (.bl true) H
theorem ok_is_size (T : Tx K mg) : Ok P w K mg base CX0 2 "is_size" ["value"] sp_is_size := by
  refine T.d_is_size.ok sc_is_size (fun vs H Q E h => ?_) (fun f cdv A outer s H vs Q E hG hr h => ?_)
  · obtain ⟨n, rfl, _⟩ := h
    rfl
  · obtain ⟨n, rfl, h1, h2, q⟩ := h
    refine ⟨_, (pss_one (ps_ret (pe_and (pe_callO (ok_is_integer T) hG (hr.mono (by decide)) (pa_cons (pv 0) pa_nil)) (pe_one (pe_chain op_le op_le (pe_gint T.g_LEAST_SIZE) (pv 0) (pe_gint T.g_MOST_SIZE)))))), ?_⟩
    refine ⟨_, rfl, n, rfl, true, rfl, iteT ?_⟩
    refine ⟨_, rfl, 2, n, rfl, rfl, _, rfl, ?_⟩
    rw [decide_eq_true h1]
    refine iteT ⟨_, _, rfl, rfl, ?_⟩
    show Q (.bl (decide (n ≤ 6))) H
    rw [decide_eq_true h2]
    exact q
def sp_are_windows (K : PySem.W.Frag) : Sp := fun vs H Q _ => ∃ (n : Nat) (a : Addr) (ws : List Str), vs = [.int n, .ref a] ∧ SqT K H a (ws.map V.str) ∧ Win n ws ∧ n ≤ 6 ∧ ws.length ≤ 1000 ∧ RetD K (.bool true) H Q
theorem ok_are_windows (T : Tx K mg) : Ok P w K mg base CX0 2 "are_windows" ["size", "value"] (sp_are_windows K) := by
  refine T.d_are_windows.ok sc_are_windows (fun vs H Q E h => ?_) (fun f cdv A outer s H vs Q E hG hr h => ?_)
  · obtain ⟨n, a, ws, rfl, _⟩ := h
    rfl
  · obtain ⟨n, a, ws, rfl, hS, ⟨hW, hA⟩, h6, hl, q⟩ := h
    refine ⟨_, (pss_cons (ps_if (PW.pt (pw_or (pt_not (pt_val (pe_callB (call_isiK2 (K := K)) (by rfl) T.b_isinstance (by decide +kernel) (pa_cons (pv 1) (pa_cons (pe_gty (T := "tuple") T.b_tuple (by decide +kernel)) pa_nil))))) (pw_or1 (pt_not (pt_val (pe_callB (cr_allK (K := K) rfl) (by rfl) T.b_all (by decide +kernel) (pa_cons (pe_lc (own := [("window", 2)]) (g := gName 2) (tt := tYes) rfl sc_are_windows.nd (pi_tupK (K := K) (pv 1)) (blkOk_by (own := [("window", 2)]) (N := n_are_windows) (sc := defScope s_are_windows) (by decide +kernel)) (fun _ _ _ _ _ => pg_name (i := 2) sc_are_windows.nd rfl (Or.inl rfl)) (fun _ _ _ _ _ => pts_nil) (fun _ _ _ _ _ => (pe_and (pe_callO (ok_is_word T) hG (hr.mono (by decide)) (pa_cons (pv 2) pa_nil)) (pe_one (pe_cmpR op_eq (pe_callB call_len_str (by rfl) T.b_len PySem.boot_len (pa_cons (pv 2) pa_nil)) (pv 0) (nomark _)))))) pa_nil))))))) (pss_one (ps_ret pe_bl)) pss_nil) (pss_one (ps_ret (pe_callO (ok_are_ascending T) hG (hr.mono (by decide)) (pa_cons (pv 1) pa_nil))))), ?_⟩
    have hlen : (ws.map V.str).length = ws.length := List.length_map ..
    refine ⟨_, rfl, _, _, _, _, true, rfl, .ty _, tyT hS, kit_ty (by decide +kernel), true, rfl, ?_⟩
    refine iteF ?_
    refine ⟨_, rfl, a, rfl, ⟨_, hS⟩, fun D np => ?_⟩
    refine lc_tp hS (fun _ => true) (fun _ => .bool true) np (by omega) (fun _ _ => rfl) (fun i x H2 Y Z hi e it hy _ => ?_) (fun H' acc e hp hd => ?_)
    · obtain ⟨z, hz, rfl⟩ := str_at it
      obtain ⟨w1, w2⟩ := hW z (List.mem_of_getElem? hz)
      refine ⟨rfl, lc_yes ?_⟩
      refine ⟨_, rfl, z, rfl, by omega, fun v H3 e3 hv => ?_⟩
      obtain rfl := dp_bl hv
      refine ⟨_, rfl, ?_⟩
      rw [wordB_of w1]
      refine iteT ⟨_, rfl, z, rfl, sz_of (by omega), _, rfl, rfl, hy rfl _ _ e3 ?_⟩
      rw [w2]
      rw [decide_eq_true rfl]
      exact .bl _
    · rw [givenD_all] at hd
      have hb : acc = ((List.range (ws.map V.str).length).map fun _ => true).map V.bl := bls_dpa (by rw [List.map_map]; exact hd)
      subst hb
      refine ⟨_, _, rfl, SqL.of hp, _, rfl, ?_⟩
      rw [show (((List.range (ws.map V.str).length).map fun _ => true).all id) = true from List.all_eq_true.mpr fun b hb => by
        obtain ⟨_, _, rfl⟩ := List.mem_map.mp hb
        rfl]
      refine iteF ?_
      exact ⟨_, rfl, a, ws, rfl, ex_t e hS, hA, hl, fun v H3 e3 hv => q v H3 (e.trans e3) hv⟩
def sp_is_a_book (K : PySem.W.Frag) : Sp := fun vs H Q _ => ∃ (v : V) (n : Nat) (ws : List Str), vs = [v] ∧ Dp K H v (bookD n ws) ∧ Bk n ws ∧ RetD K (.bool true) H Q
theorem ok_is_a_book (T : Tx K mg) : Ok P w K mg base CX0 3 "is_a_book" ["value"] (sp_is_a_book K) := by
  refine T.d_is_a_book.ok sc_is_a_book (fun vs H Q E h => ?_) (fun f cdv A outer s H vs Q E hG hr h => ?_)
  · obtain ⟨v, n, ws, rfl, _⟩ := h
    rfl
  · obtain ⟨v, n, ws, rfl, hB, B, q⟩ := h
    obtain ⟨a, t, rfl, h1, h2⟩ := dp_book hB
    refine ⟨_, (pss_cons (ps_if (PW.pt (pw_or (pt_not (pt_val (pe_callB (call_isiK2 (K := K)) (by rfl) T.b_isinstance (by decide +kernel) (pa_cons (pv 0) (pa_cons (pe_gty (T := "tuple") T.b_tuple (by decide +kernel)) pa_nil))))) (pw_or (pt_cmpR op_ne (pe_callB (call_lenK (K := K)) (by rfl) T.b_len PySem.boot_len (pa_cons (pv 0) pa_nil)) pe_int (nomark _)) (pw_or1 (pt_not (pt_val (pe_callO (ok_is_size T) hG (hr.mono (by decide)) (pa_cons (pe_ix (ix_tupK (K := K)) (pv 0) pe_int (fun _ _ => rfl)) pa_nil)))))))) (pss_one (ps_ret pe_bl)) pss_nil) (pss_one (ps_ret (pe_and (pe_callO (ok_are_windows T) hG (hr.mono (by decide)) (pa_cons (pe_ix (ix_tupK (K := K)) (pv 0) pe_int (fun _ _ => rfl)) (pa_cons (pe_ix (ix_tupK (K := K)) (pv 0) pe_int (fun _ _ => rfl)) pa_nil))) (pe_one (pe_cmpR op_gt (pe_callB (call_lenK (K := K)) (by rfl) T.b_len PySem.boot_len (pa_cons (pe_ix (ix_tupK (K := K)) (pv 0) pe_int (fun _ _ => rfl)) pa_nil)) pe_int (nomark _))))))), ?_⟩
    have few := B.few
    have lo := B.lo
    have hi := B.hi
    refine ⟨_, rfl, _, _, _, _, true, rfl, .ty _, tyT h1, kit_ty (by decide +kernel), true, rfl, iteF ?_⟩
    refine ⟨_, rfl, _, _, rfl, .inr h1, rfl, _, rfl, iteF ?_⟩
    refine ⟨_, rfl, _, _, _, _, rfl, rfl, h1, atI_of (j := 0) rfl rfl, _, rfl, by omega, by omega, true, rfl, iteF ?_⟩
    refine ⟨_, rfl, _, _, _, _, rfl, rfl, h1, atI_of (j := 0) rfl rfl, _, rfl, _, _, _, _, rfl, rfl, h1, atI_of (j := 1) rfl rfl, n, t, ws, rfl, h2, B.win, hi, by omega, fun v H3 e3 hv => ?_⟩
    obtain rfl := dp_bl hv
    refine ⟨true, rfl, iteT ?_⟩
    refine ⟨_, rfl, _, _, _, _, rfl, rfl, ex_t e3 h1, atI_of (j := 1) rfl rfl, _, _, rfl, .inr (ex_t e3 h2), _, _, rfl, rfl, q _ _ e3 ?_⟩
    have hp : 0 < ws.length := List.length_pos_iff.mpr B.ne
    show Dp K H3 (.bl (decide ((0 : Int) < (ws.map V.str).length))) _
    rw [decide_eq_true (show (0 : Int) < (ws.map V.str).length by rw [List.length_map]; omega)]
    exact .bl true
def sp_need_book (K : PySem.W.Frag) : Sp := fun vs H Q _ => ∃ (v : V) (n : Nat) (ws : List Str), vs = [v] ∧ Dp K H v (bookD n ws) ∧ Bk n ws ∧ ∀ H', Ex H H' → Q .non H'
theorem ok_need_book (T : Tx K mg) : Ok P w K mg base CX0 4 "need_book" ["book"] (sp_need_book K) := by
  refine T.d_need_book.ok sc_need_book (fun vs H Q E h => ?_) (fun f cdv A outer s H vs Q E hG hr h => ?_)
  · obtain ⟨v, n, ws, rfl, _⟩ := h
    rfl
  · obtain ⟨v, n, ws, rfl, hB, B, q⟩ := h
    refine ⟨_, (pss_one (ps_if (pt_not (pt_val (pe_callO (ok_is_a_book T) hG (hr.mono (by decide)) (pa_cons (pv 0) pa_nil)))) (pss_one ps_never) pss_nil)), ?_⟩
    refine ⟨_, rfl, v, n, ws, rfl, hB, B, fun u H3 e3 hv => ?_⟩
    obtain rfl := dp_bl hv
    exact ⟨true, rfl, iteF (q _ e3)⟩
def sp_begin_of : Sp := fun vs H Q _ => ∃ x, vs = [.str x] ∧ x.length ≤ 1000000 ∧ Q (.str (begS x)) H
theorem ok_begin_of (T : Tx K mg) : Ok P w K mg base CX0 1 "begin_of" ["window"] sp_begin_of := by
  refine T.d_begin_of.ok sc_begin_of (fun vs H Q E h => ?_) (fun f cdv A outer s H vs Q E hG hr h => ?_)
  · obtain ⟨x, rfl, _⟩ := h
    rfl
  · obtain ⟨x, rfl, hl, q⟩ := h
    refine ⟨_, (pss_one (ps_ret (pe_slice sl_str (pv 0) po_none (po_some (pe_un un_neg pe_int))))), ?_⟩
    refine ⟨_, rfl, 1, rfl, _, rfl, x, rfl, sz_of hl, ?_⟩
    rw [show cutS x none (some (-1)) = begS x from cut_beg x]
    exact q
def sp_end_of : Sp := fun vs H Q _ => ∃ x, vs = [.str x] ∧ x.length ≤ 1000000 ∧ Q (.str (endS x)) H
theorem ok_end_of (T : Tx K mg) : Ok P w K mg base CX0 1 "end_of" ["window"] sp_end_of := by
  refine T.d_end_of.ok sc_end_of (fun vs H Q E h => ?_) (fun f cdv A outer s H vs Q E hG hr h => ?_)
  · obtain ⟨x, rfl, _⟩ := h
    rfl
  · obtain ⟨x, rfl, hl, q⟩ := h
    refine ⟨_, (pss_one (ps_ret (pe_slice sl_str (pv 0) (po_some pe_int) po_none))), ?_⟩
    refine ⟨_, rfl, 1, rfl, x, rfl, sz_of hl, ?_⟩
    rw [cut_end]
    exact q
end

/-! ### webs: places, windows by the place where they begin, what is come to -/
section
variable {P : Program} {w : World} {K : PySem.W.Frag} {mg : Str → Option Value} {base : Heap}
def sp_places_of (K : PySem.W.Frag) : Sp := fun vs H Q _ => ∃ (v : V) (n : Nat) (ws : List Str), vs = [v] ∧ Dp K H v (bookD n ws) ∧ (∀ x ∈ ws, x.length ≤ 100) ∧ ws.length ≤ 1000 ∧ RetD K (strsL (places ws)) H Q
theorem ok_places_of (T : Tx K mg) : Ok P w K mg base CX0 1 "places_of" ["book"] (sp_places_of K) := by
  refine T.d_places_of.ok sc_places_of (fun vs H Q E h => ?_) (fun f cdv A outer s H vs Q E hG hr h => ?_)
  · obtain ⟨v, n, ws, rfl, _⟩ := h
    rfl
  · obtain ⟨v, n, ws, rfl, hB, hx, hl, q⟩ := h
    obtain ⟨a, t, rfl, h1, h2⟩ := dp_book hB
    refine ⟨_, (pss_cons (ps_set (i := 1) sc_places_of.nd rfl (Or.inl rfl) pe_dnewK) (pss_cons (ps_for PassesOwn.never rfl (pi_tupK (K := K) (pe_ix (ix_tupK (K := K)) (pv 0) pe_int (fun _ _ => rfl))) (pg_name (i := 2) sc_places_of.nd rfl (Or.inl rfl)) (pss_cons (ps_dput (hu_of hr) (pv 1) (pe_slice sl_str (pv 2) po_none (po_some (pe_un un_neg pe_int))) pe_bl rfl) (pss_one (ps_dput (hu_of hr) (pv 1) (pe_slice sl_str (pv 2) (po_some pe_int) po_none) pe_bl rfl)))) (pss_one (ps_ret (pe_callB (cr_sortDct (K := K) rfl hr.units) (by rfl) T.b_sorted (by decide +kernel) (pa_cons (pv 1) pa_nil)))))), ?_⟩
    have lmap : (ws.map V.str).length = ws.length := List.length_map ..
    intro d nd
    refine ⟨_, rfl, _, _, _, _, rfl, rfl, ex_t (Ex.new nd) h1, atI_of (j := 1) rfl rfl, t, rfl, fo_tp h2 (fun i σ H' => ∃ x2, σ = [some (.ref a), some (.ref d), x2] ∧ Ex H H' ∧ H' d = some (.dK (trues (ded (plcs (ws.take i))))))
      ⟨none, rfl, Ex.new nd, upd_same⟩ (fun i σ H' ⟨_, _, e, _⟩ => e) ?_ ?_⟩
    · rintro i x σ H' hi ⟨x2, rfl, e, hd⟩
      obtain ⟨z, hz, rfl⟩ := str_at hi
      have zl := hx z (List.mem_of_getElem? hz)
      have hil : i < ws.length := (List.getElem?_eq_some_iff.mp hz).1
      have kl : (trues (ded (plcs (ws.take i)))).length ≤ 2000 := by
        rw [trues_len]
        have := ded_le (plcs (ws.take i))
        rw [plcs_len, List.length_take] at this
        omega
      refine ⟨_, rfl, _, rfl, 1, rfl, _, rfl, z, rfl, sz_of (by omega), ?_⟩
      rw [show cutS z none (some (-1)) = begS z from cut_beg z]
      refine ⟨d, _, rfl, DPut.k (k := kS (begS z)) hd (sz_lt (by omega)), ?_⟩
      rw [trues_add]
      refine ⟨_, rfl, _, rfl, 1, rfl, z, rfl, sz_of (by omega), ?_⟩
      rw [cut_end]
      have kl2 : (trues (addS (ded (plcs (ws.take i))) (begS z))).length ≤ 2001 := by
        have := addS_len (ded (plcs (ws.take i))) (begS z)
        rw [trues_len] at kl ⊢
        omega
      refine ⟨d, _, rfl, DPut.k (k := kS (endS z)) upd_same (sz_lt (by omega)), ?_⟩
      rw [trues_add, upd_upd]
      refine ⟨_, rfl, Ex.mut e nd, ?_⟩
      rw [upd_same, ded_plcs hz]
    · rintro σ H' ⟨x2, rfl, e, hd⟩
      rw [lmap, take_len] at hd
      refine ⟨_, rfl, d, _, ded (plcs ws), rfl, .inl hd, trues_keys _, ?_, fun p np => q _ _ (e.trans (Ex.new np)) (dpL (SqL.of upd_same))⟩
      have := ded_le (plcs ws)
      rw [plcs_len] at this
      omega
end
section
variable {P : Program} {w : World} {K : PySem.W.Frag} {mg : Str → Option Value} {base : Heap}
theorem plcs_one (ws : List Str) (z : Str) : plcs (ws ++ [z]) = (plcs ws ++ [begS z]) ++ [endS z] := by
  rw [plcs_app, List.append_assoc]
  rfl
/-- a place of a longer book stands by no window of the book ahead -/
theorem grp_new {g : Str → Str} {ws : List Str} {p : Str} (h : p ∉ plcs ws) : grp begS g ws p = [] := grp_none fun x hx e => h (e ▸ beg_mem hx)
def sp_windows_out (K : PySem.W.Frag) : Sp := fun vs H Q _ => ∃ (v : V) (n : Nat) (ws : List Str), vs = [v] ∧ Dp K H v (bookD n ws) ∧ (∀ x ∈ ws, x.length ≤ 100) ∧ ws.length ≤ 1000 ∧
  ∀ d H', Ex H H' → Wd H' d (ded (plcs ws)) (grp begS id ws) → Q (.ref d) H'
theorem ok_windows_out (T : Tx K mg) : Ok P w K mg base CX0 2 "windows_out" ["book"] (sp_windows_out K) := by
  refine T.d_windows_out.ok sc_windows_out (fun vs H Q E h => ?_) (fun f cdv A outer s H vs Q E hG hr h => ?_)
  · obtain ⟨v, n, ws, rfl, _⟩ := h
    rfl
  · obtain ⟨v, n, ws, rfl, hB, hx, hl, q⟩ := h
    obtain ⟨a, t, rfl, h1, h2⟩ := dp_book hB
    refine ⟨_, (pss_cons (ps_set (i := 1) sc_windows_out.nd rfl (Or.inl rfl) pe_dnewK) (pss_cons (ps_for PassesOwn.never rfl (pi_tupK (K := K) (pe_ix (ix_tupK (K := K)) (pv 0) pe_int (fun _ _ => rfl))) (pg_name (i := 2) sc_windows_out.nd rfl (Or.inl rfl)) (pss_cons (ps_for PassesOwn.never rfl (pi_tupK (K := K) (pe_tup (pa_cons (pe_callO (ok_begin_of T) hG (hr.mono (by decide)) (pa_cons (pv 2) pa_nil)) (pa_cons (pe_callO (ok_end_of T) hG (hr.mono (by decide)) (pa_cons (pv 2) pa_nil)) pa_nil)))) (pg_name (i := 3) sc_windows_out.nd rfl (Or.inl rfl)) (pss_one (ps_if (pt_cmp (pc_dnotin (hu_of hr) (pv 3) (pv 1))) (pss_one (ps_dput (hu_of hr) (pv 1) (pv 3) (pe_lst pa_nil) rfl)) pss_nil))) (pss_cons (ps_set (i := 4) sc_windows_out.nd rfl (Or.inl rfl) (pe_dget (hu_of hr) (pv 1) (pe_callO (ok_begin_of T) hG (hr.mono (by decide)) (pa_cons (pv 2) pa_nil)) (fun _ _ => rfl))) (pss_one (ps_expr (pe_bmK (K := K) PySem.F.plainAttrs_list PySem.F.slot_list_append PySem.F.type_list_append mt_append (pv 4) (pa_cons (pv 2) pa_nil))))))) (pss_one (ps_ret (pv 1))))), ?_⟩
    have lmap : (ws.map V.str).length = ws.length := List.length_map ..
    intro d nd
    refine ⟨_, rfl, _, _, _, _, rfl, rfl, ex_t (Ex.new nd) h1, atI_of (j := 1) rfl rfl, t, rfl, fo_tp h2 (fun i σ H' => ∃ rs x2 x3 x4, σ = [some (.ref a), some (.ref d), x2, x3, x4] ∧ Wb H H' d (ded (plcs (ws.take i))) (grp begS id (ws.take i)) rs)
      ⟨fun _ => 0, none, none, none, rfl, Wb.start nd⟩ (fun i σ H' ⟨_, _, _, _, _, W⟩ => W.e) ?_ ?_⟩
    · rintro i x σ H' hi ⟨rs, x2, x3, x4, rfl, W⟩
      obtain ⟨z, hz, rfl⟩ := str_at hi
      have zl := hx z (List.mem_of_getElem? hz)
      have hil : i < ws.length := (List.getElem?_eq_some_iff.mp hz).1
      have kl : (ded (plcs (ws.take i))).length ≤ 2000 := by
        have := ded_le (plcs (ws.take i))
        rw [plcs_len, List.length_take] at this
        omega
      refine ⟨_, rfl, z, rfl, by omega, _, rfl, z, rfl, by omega, sz_of (by show 2 ≤ 1000000; decide), fun p np => ⟨p, rfl, ?_⟩⟩
      have new0 : ∀ k, k ∉ ded (plcs (ws.take i)) → grp begS id (ws.take i) k = [] := fun k hk => grp_new fun q => hk (ded_mem.mpr q)
      have Hp0 : H p = none := fresh_back W.e np
      refine fo_tp (Hb := upd H p (.tup [.str (begS z), .str (endS z)])) (xs := [.str (begS z), .str (endS z)]) (SqT.of upd_same) (fun j σ H'' => ∃ rs x3, σ = [some (.ref a), some (.ref d), some (.str z), x3, x4] ∧ Wb (upd H p (.tup [.str (begS z), .str (endS z)])) H'' d (([begS z, endS z].take j).foldl addS (ded (plcs (ws.take i)))) (grp begS id (ws.take i)) rs) ?_ ?_ ?_ ?_
      · exact ⟨rs, x3, rfl, W.up np⟩
      · exact fun j σ H'' ⟨_, _, _, W⟩ => W.e
      · rintro j x σ H'' hj ⟨rs, x3, rfl, W⟩
        obtain ⟨k, hk, rfl⟩ := str_at (ws := [begS z, endS z]) hj
        have ek : ([begS z, endS z].take (j + 1)).foldl addS (ded (plcs (ws.take i))) = addS (([begS z, endS z].take j).foldl addS (ded (plcs (ws.take i)))) k := by
          rw [take_snoc hk, List.foldl_append]
          rfl
        rw [ek]
        have hsub : ∀ y ∈ ded (plcs (ws.take i)), y ∈ ([begS z, endS z].take j).foldl addS (ded (plcs (ws.take i))) := fun y hy => foldl_addS_mem.mpr (.inl hy)
        have hlen : (([begS z, endS z].take j).foldl addS (ded (plcs (ws.take i)))).length ≤ 2002 := by
          have := nodup_len W.nk (l := ded (plcs (ws.take i)) ++ [begS z, endS z]) fun y hy => (foldl_addS_mem.mp hy).elim (fun q => List.mem_append_left _ q) fun q => List.mem_append_right _ (List.mem_of_mem_take q)
          rw [List.length_append] at this
          have e2 : [begS z, endS z].length = 2 := rfl
          omega
        generalize hks : ([begS z, endS z].take j).foldl addS (ded (plcs (ws.take i))) = ks at W hsub hlen
        refine ⟨_, rfl, _, rfl, d, _, rfl, DGet.k (k := kS k) W.hd, _, rfl, ?_⟩
        by_cases hkk : k ∈ ks
        · rw [show (!(valV (wkv rs ks) (kS k)).isSome) = false by rw [wkv_in, decide_eq_true hkk]; rfl]
          refine iteF ⟨rs, some (.str k), rfl, ?_⟩
          rw [addS, if_pos hkk]
          exact W
        · rw [show (!(valV (wkv rs ks) (kS k)).isSome) = true by rw [wkv_in, decide_eq_false hkk]; rfl]
          refine iteT ⟨sz_of (by show 0 ≤ 1000000; decide), fun p2 np2 => ⟨_, rfl, _, rfl, d, _, rfl, DPut.k (k := kS k) ((Ex.new np2) _ _ W.hd) (sz_lt (by rw [wkv_len]; omega)), fun y => if y = k then p2 else rs y, some (.str k), rfl, ?_⟩⟩
          rw [addS, if_neg hkk]
          exact W.put hkk np2 (new0 k fun q => hkk (hsub k q))
      · rintro σ H'' ⟨rs, x3, rfl, W⟩
        have W := W.down Hp0
        rw [show ([begS z, endS z].take [V.str (begS z), V.str (endS z)].length).foldl addS (ded (plcs (ws.take i))) = ded (plcs (ws.take (i + 1))) by rw [ded_plcs hz]; rfl] at W
        have hbk : begS z ∈ ded (plcs (ws.take (i + 1))) := ded_mem.mpr (beg_mem (by rw [take_snoc hz]; exact List.mem_append_right _ (List.mem_singleton.mpr rfl)))
        obtain ⟨r1, r2⟩ := W.row _ hbk
        refine ⟨_, rfl, _, rfl, z, rfl, by omega, d, .ref (rs (begS z)), rfl, ?_, ?_⟩
        · rw [← wkv_val (rs := rs) hbk]
          exact DGet.k (k := kS (begS z)) W.hd
        · refine ⟨_, rfl, .inl ⟨rfl, _, SqL.of r2⟩, _, rfl, _, _, _, rfl, rfl, r2, ?_, rs, _, _, _, rfl, ?_⟩
          · rw [List.length_map]
            have := grp_len begS id (ws.take i) (begS z)
            rw [List.length_take] at this
            exact sz_lt (by omega)
          · refine (W.app hbk).as fun k _ => ?_
            rw [take_snoc hz, grp_snoc]
            rfl
    · rintro σ H' ⟨rs, x2, x3, x4, rfl, W⟩
      rw [lmap, take_len] at W
      exact ⟨_, rfl, q _ _ W.e W.wd⟩
end

/-! ### floods -/
section
variable {P : Program} {w : World} {K : PySem.W.Frag} {mg : Str → Option Value} {base : Heap}
structure Ws (ws : List Str) : Prop where
  wd : ∀ x ∈ ws, Word x ∧ x.length ≤ 100
  few : ws.length ≤ 1000
theorem Bk.ws {n : Nat} {ws : List Str} (B : Bk n ws) : Ws ws := ⟨fun x hx => ⟨(B.win.1 x hx).1, by have := (B.win.1 x hx).2; have := B.hi; omega⟩, by have := B.few; omega⟩
theorem Ws.plc {ws : List Str} (h : Ws ws) {p : Str} (hp : p ∈ plcs ws) : Word p ∧ p.length ≤ 100 := by
  obtain ⟨x, hx, e⟩ := plcs_mem.mp hp
  obtain ⟨h1, h2⟩ := h.wd x hx
  rcases e with rfl | rfl
  · exact ⟨word_beg h1, by rw [len_beg]; omega⟩
  · exact ⟨word_end h1, by rw [len_end]; omega⟩
theorem srch_len {ws ks wl : List Str} {p : Str} {op : Str → Prop} (hp : p ∈ plcs ws) (S : Srch (nxts ws) p ks wl op) : ks.length ≤ 2 * ws.length := by
  rw [← plcs_len]
  exact nodup_len S.nd fun q hq => rch_plc hp (S.rch q hq)
/-- where a flood stands -/
structure Fl (ws : List Str) (p : Str) (Hb H : Hp) (F W : Addr) (op : Str → Prop) (ks wl : List Str) : Prop where
  e : Ex Hb H
  f : Hb F = none
  w : Hb W = none
  hF : H F = some (.dK (trues ks))
  hW : H W = some (.lst (wl.map V.str))
  S : Srch (nxts ws) p ks wl op
  n : wl.Nodup
theorem Fl.ne {ws : List Str} {p : Str} {Hb H : Hp} {F W : Addr} {op : Str → Prop} {ks wl : List Str} (f : Fl ws p Hb H F W op ks wl) : F ≠ W := ne_of f.hF f.hW fun z => nomatch z
theorem Fl.ex {ws : List Str} {p : Str} {Hb H H' : Hp} {F W : Addr} {op : Str → Prop} {ks wl : List Str} (f : Fl ws p Hb H F W op ks wl) (e : Ex H H') : Fl ws p Hb H' F W op ks wl := ⟨f.e.trans e, f.f, f.w, e _ _ f.hF, e _ _ f.hW, f.S, f.n⟩
theorem Fl.pop {ws : List Str} {p q : Str} {Hb H : Hp} {F W : Addr} {ks wl : List Str} (f : Fl ws p Hb H F W (fun _ => False) ks (wl ++ [q])) : Fl ws p Hb (upd H W (.lst (wl.map V.str))) F W (fun z => z = q) ks wl :=
  ⟨Ex.mut f.e f.w, f.f, f.w, by rw [upd_ne f.ne]; exact f.hF, upd_same, f.S.pop, (List.nodup_append.mp f.n).1⟩
theorem Fl.put {ws : List Str} {p q r : Str} {Hb H : Hp} {F W : Addr} {ks wl : List Str} (f : Fl ws p Hb H F W (fun z => z = q) ks wl) (hq : q ∈ ks) (hr : r ∈ nxts ws q) (hn : r ∉ ks) :
    Fl ws p Hb (upd (upd H F (.dK (putK (trues ks) (kS r) (.bl true)))) W (.lst (wl.map V.str ++ [.str r]))) F W (fun z => z = q) (ks ++ [r]) (wl ++ [r]) :=
  ⟨Ex.mut (Ex.mut f.e f.f) f.w, f.f, f.w, by rw [upd_ne f.ne, upd_same, trues_put hn], by rw [upd_same, List.map_append]; rfl, f.S.put hq hr hn, List.nodup_append.mpr ⟨f.n, nodup_one r, fun a ha b hb (e : a = b) => hn (by rw [← List.mem_singleton.mp hb, ← e]; exact f.S.sub a ha)⟩⟩
theorem Fl.shut {ws : List Str} {p q : Str} {Hb H : Hp} {F W : Addr} {ks wl : List Str} (f : Fl ws p Hb H F W (fun z => z = q) ks wl) (h : ∀ r ∈ nxts ws q, r ∈ ks) : Fl ws p Hb H F W (fun _ => False) ks wl := ⟨f.e, f.f, f.w, f.hF, f.hW, f.S.shut h, f.n⟩
/-- how much is left to do -/
def flm (ws ks wl : List Str) : Nat := 2 * (2 * ws.length - ks.length) + wl.length
def sp_places_from (K : PySem.W.Frag) : Sp := fun vs H Q _ => ∃ (v : V) (n : Nat) (ws : List Str) (p : Str), vs = [v, .str p] ∧ Dp K H v (bookD n ws) ∧ Ws ws ∧ p ∈ plcs ws ∧
  ∀ d H' ks, Ex H H' → H d = none → ks.Nodup → (∀ q, q ∈ ks ↔ Rch (nxts ws) p q) → H' d = some (.dK (trues ks)) → Q (.ref d) H'
theorem ok_places_from (T : Tx K mg) : Ok P w K mg base CX0 3 "places_from" ["book", "spot"] (sp_places_from K) := by
  refine T.d_places_from.ok sc_places_from (fun vs H Q E h => ?_) (fun f cdv A outer s H vs Q E hG hr h => ?_)
  · obtain ⟨v, n, ws, p, rfl, _⟩ := h
    rfl
  · obtain ⟨v, n, ws, p, rfl, hB, hw, hp, q⟩ := h
    refine ⟨_, (pss_cons (ps_set (i := 2) sc_places_from.nd rfl (Or.inl rfl) (pe_callO (ok_windows_out T) hG (hr.mono (by decide)) (pa_cons (pv 0) pa_nil))) (pss_cons (ps_par (i := 3) (j := 4) rfl sc_places_from.nd rfl rfl (by decide) rfl rfl (pa_cons (pe_disp (pps_cons (pv 1) pe_bl pps_nil) (by rfl) (by rfl) (fun z => by cases z) (by decide)) (pa_cons (pe_lst (pa_cons (pv 1) pa_nil)) pa_nil)) (by rfl)) (pss_cons (ps_while PassesOwn.never (pt_cmpR (op_neDK (K := K) hr.units) (pv 4) (pe_lst pa_nil) (nomark _)) (pss_one (ps_for PassesOwn.never rfl (pi_listK (K := K) (pe_dget (hu_of hr) (pv 2) (pe_bm0K (K := K) PySem.F.plainAttrs_list PySem.F.slot_list_pop PySem.F.type_list_pop mt_pop (pv 4)) (fun _ _ => rfl))) (pg_name (i := 5) sc_places_from.nd rfl (Or.inl rfl)) (pss_one (ps_if (pt_cmp (pc_dnotin (hu_of hr) (pe_callO (ok_end_of T) hG (hr.mono (by decide)) (pa_cons (pv 5) pa_nil)) (pv 3))) (pss_cons (ps_dput (hu_of hr) (pv 3) (pe_callO (ok_end_of T) hG (hr.mono (by decide)) (pa_cons (pv 5) pa_nil)) pe_bl rfl) (pss_one (ps_expr (pe_bmK (K := K) PySem.F.plainAttrs_list PySem.F.slot_list_append PySem.F.type_list_append mt_append (pv 4) (pa_cons (pe_callO (ok_end_of T) hG (hr.mono (by decide)) (pa_cons (pv 5) pa_nil)) pa_nil))))) pss_nil))))) (pss_one (ps_ret (pv 3)))))), ?_⟩
    refine ⟨_, rfl, v, n, ws, rfl, hB, fun x hx => (hw.wd x hx).2, hw.few, fun D H1 e1 wD => ?_⟩
    -- found, waiting
    refine fun F nF => ⟨_, rfl, upd_same, [(kS p, .bl true)], rfl, by show 1 ≤ 15; decide, _, rfl, sz_of (by show 1 ≤ 1000000; decide), fun W nW => ⟨_, _, rfl, ?_⟩⟩
    have FW : F ≠ W := ne_of_none upd_same nW
    have nW1 : H1 W = none := by
      rw [upd_upd, upd_ne FW.symm] at nW
      exact nW
    have fl0 : Fl ws p H1 (upd (upd (upd H1 F (.dK [])) F (.dK (mergeK [] [(kS p, .bl true)]))) W (.lst [.str p])) F W (fun _ => False) [p] [p] := by
      rw [upd_upd]
      exact ⟨Ex.mut (Ex.new nF) nW1, nF, nW1, by rw [upd_ne FW, upd_same]; rfl, by rw [upd_same]; rfl, .start, nodup_one p⟩
    refine ⟨fun m σ H' => ∃ x5 ks wl, σ = [some v, some (.str p), some (.ref D), some (.ref F), some (.ref W), x5] ∧ m = flm ws ks wl ∧ Fl ws p H1 H' F W (fun _ => False) ks wl, ⟨_, _, _, _, rfl, rfl, fl0⟩, ?_⟩
    rintro m σ H' ⟨x5, ks, wl, rfl, rfl, fl⟩
    have wlw : ∀ z ∈ wl, Word z := fun z hz => (hw.plc (rch_plc hp (fl.S.rch z (fl.S.sub z hz)))).1
    refine ⟨_, rfl, sz_of (by show 0 ≤ 1000000; decide), fun np nnp => ⟨strsL wl, .list [], dpL (SqL.of ((Ex.new nnp) _ _ fl.hW)), .lst (SqL.of upd_same) .nil, shapedL wlw, rfl, _, rfl, ?_⟩⟩
    have fl := fl.ex (Ex.new (o := .lst []) nnp)
    rcases snoc_cases wl with rfl | ⟨wl', pp, rfl⟩
    · exact iteF ⟨_, rfl, q _ _ _ (e1.trans fl.e) (fresh_back e1 fl.f) fl.S.nd fl.S.done fl.hF⟩
    · rw [ne_nilS]
      refine iteT ⟨fun σ' H' => ∃ x5 ks' wl2, σ' = [some v, some (.str p), some (.ref D), some (.ref F), some (.ref W), x5] ∧ flm ws ks' wl2 < flm ws ks (wl' ++ [pp]) ∧ Fl ws p H1 H' F W (fun _ => False) ks' wl2,
        fun σ' H' ⟨x5, ks', wl2, e, l, f⟩ => ⟨_, l, x5, ks', wl2, e, rfl, f⟩, ?_⟩
      have ppk : pp ∈ ks := fl.S.sub _ (List.mem_append_right _ (List.mem_singleton.mpr rfl))
      have ppp : pp ∈ plcs ws := rch_plc hp (fl.S.rch pp ppk)
      obtain ⟨r, g1, g2⟩ := wD.get (ded_mem.mpr ppp)
      refine ⟨_, rfl, _, rfl, .inl ⟨rfl, _, SqL.of fl.hW⟩, _, _, .str pp, rfl, rfl, fl.hW, last_at, ?_⟩
      rw [drop_last]
      have fl := fl.pop
      have ksl := srch_len hp fl.S
      refine ⟨D, .ref r, rfl, g1 _ fl.e, r, rfl, fo_lst (SqL.of g2) (fun j σ H'' => ∃ x5 ks' wl2, σ = [some v, some (.str p), some (.ref D), some (.ref F), some (.ref W), x5] ∧ Fl ws p H1 H'' F W (fun z => z = pp) ks' wl2 ∧ flm ws ks' wl2 < flm ws ks (wl' ++ [pp]) ∧ pp ∈ ks' ∧ ∀ x ∈ (grp begS id ws pp).take j, endS x ∈ ks')
        ⟨x5, ks, wl', rfl, fl, ?_, ppk, fun x hx => (List.not_mem_nil hx).elim⟩ (fun j σ H'' ⟨_, _, _, _, f, _⟩ => f.e) ?_ ?_⟩
      · unfold flm
        rw [List.length_append]
        have : [pp].length = 1 := rfl
        omega
      · rintro j x σ H'' hj ⟨x5, ks', wl2, rfl, fl, lt, hpp, hin⟩
        obtain ⟨z, hz, rfl⟩ := str_at hj
        have zg : z ∈ grp begS id ws pp := List.mem_of_getElem? hz
        have zo : z ∈ ws ∧ begS z = pp := by
          obtain ⟨y, hy, rfl⟩ := List.mem_map.mp zg
          exact outs_mem.mp hy
        have zl := (hw.wd z zo.1).2
        have znx : endS z ∈ nxts ws pp := nxts_mem.mpr ⟨z, zo.1, zo.2, rfl⟩
        have ksl := srch_len hp fl.S
        have few := hw.few
        refine ⟨_, rfl, z, rfl, by omega, _, rfl, F, _, rfl, DGet.k (k := kS (endS z)) fl.hF, _, rfl, ?_⟩
        by_cases hk : endS z ∈ ks'
        · rw [show (!(valV (trues ks') (kS (endS z))).isSome) = false by rw [trues_in, decide_eq_true hk]; rfl]
          refine iteF ⟨_, ks', wl2, rfl, fl, lt, hpp, fun y hy => ?_⟩
          rw [take_snoc hz] at hy
          rcases List.mem_append.mp hy with hy | hy
          · exact hin y hy
          · rw [List.mem_singleton.mp hy]
            exact hk
        · rw [show (!(valV (trues ks') (kS (endS z))).isSome) = true by rw [trues_in, decide_eq_false hk]; rfl]
          have fl2 := fl.put hpp znx hk
          have ksl2 := srch_len hp fl2.S
          have wll : wl2.length ≤ 4000 := by
            have h1 := nodup_len fl.n fl.S.sub
            omega
          refine iteT ⟨_, rfl, _, rfl, z, rfl, by omega, F, _, rfl, DPut.k (k := kS (endS z)) fl.hF (sz_lt (by rw [trues_len]; omega)), ?_⟩
          have hW2 : (upd H'' F (.dK (putK (trues ks') (kS (endS z)) (.bl true)))) W = some (.lst (wl2.map V.str)) := by
            rw [upd_ne fl.ne.symm]
            exact fl.hW
          refine ⟨_, rfl, .inl ⟨rfl, _, SqL.of hW2⟩, _, rfl, z, rfl, by omega, _, _, _, rfl, rfl, hW2, sz_lt (by rw [List.length_map]; omega), some (.str z), ks' ++ [endS z], wl2 ++ [endS z], rfl, fl2, ?_, List.mem_append_left _ hpp, fun y hy => ?_⟩
          · have e : flm ws (ks' ++ [endS z]) (wl2 ++ [endS z]) < flm ws ks' wl2 := by
              unfold flm
              rw [List.length_append, List.length_append] at *
              have : [endS z].length = 1 := rfl
              omega
            omega
          · rw [take_snoc hz] at hy
            rcases List.mem_append.mp hy with hy | hy
            · exact List.mem_append_left _ (hin y hy)
            · rw [List.mem_singleton.mp hy]
              exact List.mem_append_right _ (List.mem_singleton.mpr rfl)
      · rintro σ H'' ⟨x5, ks', wl2, rfl, fl, lt, hpp, hin⟩
        refine ⟨x5, ks', wl2, rfl, lt, fl.shut fun r hr => ?_⟩
        obtain ⟨y, hy, h1, rfl⟩ := nxts_mem.mp hr
        refine hin y ?_
        rw [List.length_map, List.take_length]
        exact List.mem_map.mpr ⟨y, outs_mem.mpr ⟨hy, h1⟩, rfl⟩
end
section
variable {P : Program} {w : World} {K : PySem.W.Frag} {mg : Str → Option Value} {base : Heap}
def sp_a_closed_lot (K : PySem.W.Frag) : Sp := fun vs H Q _ => ∃ (v : V) (n : Nat) (ws : List Str), vs = [v] ∧ Dp K H v (bookD n ws) ∧ Ws ws ∧ RetD K (closedD ws) H Q
theorem ok_a_closed_lot (T : Tx K mg) : Ok P w K mg base CX0 4 "a_closed_lot" ["book"] (sp_a_closed_lot K) := by
  refine T.d_a_closed_lot.ok sc_a_closed_lot (fun vs H Q E h => ?_) (fun f cdv A outer s H vs Q E hG hr h => ?_)
  · obtain ⟨v, n, ws, rfl, _⟩ := h
    rfl
  · obtain ⟨v, n, ws, rfl, hB, hw, q⟩ := h
    refine ⟨_, (pss_cons (ps_set (i := 1) sc_a_closed_lot.nd rfl (Or.inl rfl) (pe_callO (ok_places_of T) hG (hr.mono (by decide)) (pa_cons (pv 0) pa_nil))) (pss_cons (ps_for PassesOwn.never rfl (pi_listK (K := K) (pv 1)) (pg_name (i := 2) sc_a_closed_lot.nd rfl (Or.inl rfl)) (pss_cons (ps_set (i := 3) sc_a_closed_lot.nd rfl (Or.inl rfl) (pe_callO (ok_places_from T) hG (hr.mono (by decide)) (pa_cons (pv 0) (pa_cons (pv 2) pa_nil)))) (pss_one (ps_if (pt_cmpR op_lt (pe_callB call_lenD (by rfl) T.b_len PySem.boot_len (pa_cons (pv 3) pa_nil)) (pe_callB (call_lenK (K := K)) (by rfl) T.b_len PySem.boot_len (pa_cons (pv 1) pa_nil)) (nomark _)) (pss_one (ps_ret (pe_callTy (call_tupleK (K := K)) (by rfl) T.b_tuple (by decide +kernel) (pa_cons (pe_callB (cr_sortDct (K := K) rfl hr.units) (by rfl) T.b_sorted (by decide +kernel) (pa_cons (pv 3) pa_nil)) pa_nil)))) pss_nil)))) (pss_one (ps_ret pe_non)))), ?_⟩
    refine ⟨_, rfl, v, n, ws, rfl, hB, fun x hx => (hw.wd x hx).2, hw.few, fun u H1 e1 hu => ?_⟩
    obtain ⟨a, rfl, hS⟩ := dp_strsL hu
    have few := hw.few
    have plen := places_len ws
    refine ⟨_, rfl, a, rfl, fo_lst hS (fun i σ H' => ∃ x2 x3, σ = [some v, some (.ref a), x2, x3] ∧ Ex H1 H' ∧ ∀ x ∈ (places ws).take i, shy ws x = false) ⟨none, none, rfl, Ex.refl _, fun x hx => (List.not_mem_nil hx).elim⟩ (fun i σ H' ⟨_, _, _, e, _⟩ => e) ?_ ?_⟩
    · rintro i x σ H' hi ⟨x2, x3, rfl, e, hn⟩
      obtain ⟨p, hp, rfl⟩ := str_at hi
      have pp : p ∈ plcs ws := places_mem.mp (List.mem_of_getElem? hp)
      refine ⟨_, rfl, _, rfl, v, n, ws, p, rfl, dp_ex (e1.trans e) hB, hw, pp, fun d H2 ks e2 _ nd hk hd => ?_⟩
      have hsk := rchL_ks pp nd hk
      have hlen : ks.length = (rchL ws p).length := by rw [← hsk, sortS_len]
      refine ⟨_, rfl, d, trues ks, rfl, hd, _, rfl, _, _, rfl, .inl (ex_l (e.trans e2) hS), _, _, rfl, rfl, _, rfl, ?_⟩
      rw [show decide (((trues ks).length : Int) < (((places ws).map V.str).length : Int)) = shy ws p from by
        unfold shy
        rw [trues_len, List.length_map, hlen]
        exact decide_eq_decide.mpr (by omega)]
      cases hs : shy ws p with
      | true =>
        refine iteT ⟨_, rfl, d, _, ks, rfl, .inl hd, trues_keys ks, ?_, fun z nz => ⟨z, _, rfl, .inl ⟨SqL.of upd_same, fun l nl => ?_⟩⟩⟩
        · have := (List.length_filter_le (rchB ws p) (places ws))
          have : ks.length ≤ (places ws).length := by rw [hlen]; exact this
          omega
        · refine q _ _ ((((e1.trans e).trans e2).trans (Ex.new nz)).trans (Ex.new nl)) ?_
          rw [closedD_some hn hp hs, hsk]
          exact dpT (SqT.of upd_same)
      | false =>
        refine iteF ⟨_, _, rfl, e.trans e2, fun x hx => ?_⟩
        rw [take_snoc hp] at hx
        rcases List.mem_append.mp hx with hx | hx
        · exact hn x hx
        · rw [List.mem_singleton.mp hx]
          exact hs
    · rintro σ H' ⟨x2, x3, rfl, e, hn⟩
      rw [List.length_map, List.take_length] at hn
      refine q _ _ (e1.trans e) ?_
      rw [closedD_none hn]
      exact .non
end

/-! ### ring texts, counts that balance -/
section
variable {P : Program} {w : World} {K : PySem.W.Frag} {mg : Str → Option Value} {base : Heap}
def sp_is_a_ring (K : PySem.W.Frag) : Sp := fun vs H Q _ => ∃ x, vs = [.str x] ∧ Word x ∧ 1 ≤ x.length ∧ x.length ≤ 100000 ∧ RetD K (.bool true) H Q
theorem ok_is_a_ring (T : Tx K mg) : Ok P w K mg base CX0 2 "is_a_ring" ["value"] (sp_is_a_ring K) := by
  refine T.d_is_a_ring.ok sc_is_a_ring (fun vs H Q E h => ?_) (fun f cdv A outer s H vs Q E hG hr h => ?_)
  · obtain ⟨x, rfl, _⟩ := h
    rfl
  · obtain ⟨x, rfl, hx, h1, h2, q⟩ := h
    refine ⟨_, (pss_one (ps_ret (pe_and (pe_callO (ok_is_word T) hG (hr.mono (by decide)) (pa_cons (pv 0) pa_nil)) (pe_one (pe_cmpR op_gt (pe_callB call_len_str (by rfl) T.b_len PySem.boot_len (pa_cons (pv 0) pa_nil)) pe_int (nomark _)))))), ?_⟩
    have big : 1000000 ≤ sizeLine := by decide
    refine ⟨_, rfl, x, rfl, h2, fun v H3 e3 hv => ?_⟩
    obtain rfl := dp_bl hv
    refine ⟨_, rfl, ?_⟩
    rw [wordB_of hx]
    refine iteT ⟨_, rfl, x, rfl, by omega, _, _, rfl, rfl, ?_⟩
    show Q (.bl (decide ((0 : Int) < (x.length : Int)))) H3
    rw [decide_eq_true (show (0 : Int) < (x.length : Int) by omega)]
    exact q _ _ e3 (.bl true)
def sp_need_ring (K : PySem.W.Frag) : Sp := fun vs H Q _ => ∃ x, vs = [.str x] ∧ Word x ∧ 1 ≤ x.length ∧ x.length ≤ 100000 ∧ ∀ H', Ex H H' → Q .non H'
theorem ok_need_ring (T : Tx K mg) : Ok P w K mg base CX0 3 "need_ring" ["ring"] (sp_need_ring K) := by
  refine T.d_need_ring.ok sc_need_ring (fun vs H Q E h => ?_) (fun f cdv A outer s H vs Q E hG hr h => ?_)
  · obtain ⟨x, rfl, _⟩ := h
    rfl
  · obtain ⟨x, rfl, hx, h1, h2, q⟩ := h
    refine ⟨_, (pss_one (ps_if (pt_not (pt_val (pe_callO (ok_is_a_ring T) hG (hr.mono (by decide)) (pa_cons (pv 0) pa_nil)))) (pss_one ps_never) pss_nil)), ?_⟩
    refine ⟨_, rfl, x, rfl, hx, h1, h2, fun u H3 e3 hv => ?_⟩
    obtain rfl := dp_bl hv
    exact ⟨true, rfl, iteF (q _ e3)⟩
def sp_has_ring (K : PySem.W.Frag) : Sp := fun vs H Q _ => ∃ (v : V) (n : Nat) (ws : List Str), vs = [v] ∧ Dp K H v (bookD n ws) ∧ Bk n ws ∧ RetD K (.bool (scB ws)) H Q
theorem ok_has_ring (T : Tx K mg) : Ok P w K mg base CX0 5 "has_ring" ["book"] (sp_has_ring K) := by
  refine T.d_has_ring.ok sc_has_ring (fun vs H Q E h => ?_) (fun f cdv A outer s H vs Q E hG hr h => ?_)
  · obtain ⟨v, n, ws, rfl, _⟩ := h
    rfl
  · obtain ⟨v, n, ws, rfl, hB, B, q⟩ := h
    refine ⟨_, (pss_cons (ps_expr (pe_callO (ok_need_book T) hG (hr.mono (by decide)) (pa_cons (pv 0) pa_nil))) (pss_one (ps_ret (pe_cmpR op_isN (pe_callO (ok_a_closed_lot T) hG (hr.mono (by decide)) (pa_cons (pv 0) pa_nil)) pe_non (nomark _))))), ?_⟩
    refine ⟨_, rfl, v, n, ws, rfl, hB, B, fun H1 e1 => ⟨_, rfl, v, n, ws, rfl, dp_ex e1 hB, B.ws, fun u H2 e2 hu => ?_⟩⟩
    by_cases hh : Hang ws
    · rw [closedD_hang hh] at hu
      obtain rfl := dp_non hu
      rw [show scB ws = true from scB_iff.mpr ⟨B.ne, hh⟩] at q
      refine ⟨rfl, ?_⟩
      rw [decide_eq_true (rfl : V.non = V.non)]
      exact q _ _ (e1.trans e2) (.bl true)
    · obtain ⟨l, hl⟩ := closedD_not hh
      rw [hl] at hu
      obtain ⟨a, rfl, _⟩ := dp_strsT hu
      rw [show scB ws = false from scB_false fun h => hh h.2] at q
      refine ⟨rfl, ?_⟩
      rw [decide_eq_false (show ¬ V.ref a = V.non from fun z => nomatch z)]
      exact q _ _ (e1.trans e2) (.bl false)
def sp_round_steps (K : PySem.W.Frag) : Sp := fun vs H Q _ => ∃ (n : Nat) (r : Str), vs = [.int n, .str r] ∧ 1 ≤ r.length ∧ r.length ≤ 10000 ∧ 2 ≤ n ∧ n ≤ 6 ∧ NewL (rnd n r) H Q
theorem ok_round_steps (T : Tx K mg) : Ok P w K mg base CX0 1 "round_steps" ["size", "ring"] (sp_round_steps K) := by
  refine T.d_round_steps.ok sc_round_steps (fun vs H Q E h => ?_) (fun f cdv A outer s H vs Q E hG hr h => ?_)
  · obtain ⟨n, r, rfl, _⟩ := h
    rfl
  · obtain ⟨n, r, rfl, h1, h2, hn, hn6, q⟩ := h
    refine ⟨_, (pss_cons (ps_set (i := 2) sc_round_steps.nd rfl (Or.inr rfl) (pe_op op_rep_str2 (pv 1) (pe_op op_add pe_int (pe_op op_fdivN (pe_op op_sub (pe_op op_add (pv 0) (pe_callB call_len_str (by rfl) T.b_len PySem.boot_len (pa_cons (pv 1) pa_nil))) pe_int) (pe_callB call_len_str (by rfl) T.b_len PySem.boot_len (pa_cons (pv 1) pa_nil)))))) (pss_one (ps_ret (pe_lc (own := [("at", 3)]) (g := gName 3) (tt := tYes) rfl sc_round_steps.nd (pi_range1 (by rfl) T.b_range (pa_cons (pe_callB call_len_str (by rfl) T.b_len PySem.boot_len (pa_cons (pv 1) pa_nil)) pa_nil)) (blkOk_by (own := [("at", 3)]) (N := n_round_steps) (sc := defScope s_round_steps) (by decide +kernel)) (fun _ _ _ _ _ => pg_name (i := 3) sc_round_steps.nd rfl (Or.inl rfl)) (fun _ _ _ _ _ => pts_nil) (fun _ _ _ _ _ => (pe_slice sl_str (pv 2) (po_some (pv 3)) (po_some (pe_op op_add (pv 3) (pv 0))))))))), ?_⟩
    have big : 1000000 ≤ sizeLine := by decide
    obtain ⟨m, hm, hm1, hm2⟩ : ∃ m : Nat, (1 : Int) + ((n : Int) + (r.length : Int) - 1).fdiv (r.length : Int) = (m : Int) ∧ r.length + n ≤ m * r.length ∧ 1 ≤ m ∧ m ≤ 7 := by
      rw [Int.fdiv_eq_ediv_of_nonneg _ (by omega)]
      have e : ((n : Int) + (r.length : Int) - 1) = ((n + r.length - 1 : Nat) : Int) := by omega
      rw [e, ← Int.natCast_ediv]
      have d1 := Nat.div_add_mod (n + r.length - 1) r.length
      have d2 := Nat.mod_lt (n + r.length - 1) (show 0 < r.length by omega)
      have d3 : (n + r.length - 1) / r.length ≤ 6 := by
        refine Nat.le_of_lt_succ ((Nat.div_lt_iff_lt_mul (by omega)).mpr ?_)
        omega
      generalize (n + r.length - 1) / r.length = d at *
      refine ⟨1 + d, by omega, ?_, by omega, by omega⟩
      rw [Nat.add_mul, Nat.one_mul, Nat.mul_comm]
      omega
    refine ⟨_, rfl, _, rfl, _, rfl, r, rfl, by omega, _, _, rfl, rfl, _, _, rfl, rfl, _, rfl, r, rfl, by omega, _, _, rfl, rfl, ⟨by omega, by omega⟩, _, _, rfl, rfl, r, _, rfl, rfl, ?_⟩
    dsimp only
    rw [hm]
    have hmr : m * r.length ≤ 7 * r.length := Nat.mul_le_mul hm2.2 (Nat.le_refl _)
    refine ⟨by omega, by omega, h1, by rw [Int.toNat_natCast, Nat.mul_comm]; omega, ?_⟩
    rw [Int.toNat_natCast]
    have hL : sg (tx (rep m (sg r))) = rep m (sg r) := rfl
    have lL : (tx (rep m (sg r))).length = m * r.length := rep_len _ _
    generalize tx (rep m (sg r)) = L at hL lL
    refine ⟨_, rfl, r, rfl, by omega, _, rfl, by omega, by omega, fun D np => ?_⟩
    refine lc_rng K (fun _ => true) (fun i => .str (tx (cyc (sg r) i n))) np (by omega) (fun _ _ => rfl) (fun i x H2 Y Z hi e it hy _ => ?_) (fun H2 acc e hp hd => ?_)
    · subst it
      have hi2 : i < r.length := by omega
      refine ⟨rfl, lc_yes ?_⟩
      have cut : cutS L (some (i : Int)) (some ((i + n : Nat) : Int)) = tx (cyc (sg r) i n) := by
        rw [cut_at _ _ _ (by omega), hL, Nat.min_eq_left (by omega), show i + n - i = n by omega, rep_cut (by show i + n ≤ m * r.length; omega)]
      have z : rSlS (.str L) (some (0 + (i : Int))) (some (0 + (i : Int) + (n : Int))) H2 Y := by
        refine ⟨L, rfl, by omega, ?_⟩
        rw [show (0 : Int) + (i : Int) + (n : Int) = ((i + n : Nat) : Int) by omega, show (0 : Int) + (i : Int) = (i : Int) by omega, cut]
        exact hy rfl _ _ (Ex.refl _) (.str _)
      exact ⟨_, rfl, _, rfl, _, rfl, _, rfl, _, rfl, _, _, rfl, rfl, _, rfl, z⟩
    · rw [givenD_all] at hd
      rw [Int.toNat_natCast] at hd
      have hs : acc = (rnd n r).map V.str := strs_dpa (by
        unfold rnd
        rw [List.map_map]
        exact hd)
      subst hs
      exact q _ _ e np hp
/-- the number of a place -/
def ixP (ws : List Str) (p : Str) : Nat := (places ws).idxOf p
theorem ixP_at {ws : List Str} {p : Str} (h : p ∈ places ws) : (places ws)[ixP ws p]? = some p := by
  unfold ixP
  rw [List.getElem?_eq_getElem (List.idxOf_lt_length_iff.mpr h), List.getElem_idxOf]
theorem ixP_of {ws : List Str} {p : Str} {i : Nat} (h : (places ws)[i]? = some p) : ixP ws p = i := by
  have nd : (places ws).Nodup := asc_nodup (places_asc ws)
  have h2 := ixP_at (List.mem_of_getElem? h)
  have l1 := (List.getElem?_eq_some_iff.mp h).1
  have l2 := (List.getElem?_eq_some_iff.mp h2).1
  have e1 := (List.getElem?_eq_some_iff.mp h).2
  have e2 := (List.getElem?_eq_some_iff.mp h2).2
  exact (List.getElem_inj (h₀ := l2) (h₁ := l1) nd).mp (e2.trans e1.symm)
def endD (ws : List Str) (x : Str) : PyData := .tuple [.int (ixP ws (begS x) : Int), .int (ixP ws (endS x) : Int)]
def endsD (ws : List Str) : PyData := .list (ws.map (endD ws))
def sp_ends_of (K : PySem.W.Frag) : Sp := fun vs H Q _ => ∃ (v : V) (n : Nat) (ws : List Str), vs = [v] ∧ Dp K H v (bookD n ws) ∧ Ws ws ∧ RetD K (endsD ws) H Q
theorem ok_ends_of (T : Tx K mg) : Ok P w K mg base CX0 2 "ends_of" ["book"] (sp_ends_of K) := by
  refine T.d_ends_of.ok sc_ends_of (fun vs H Q E h => ?_) (fun f cdv A outer s H vs Q E hG hr h => ?_)
  · obtain ⟨v, n, ws, rfl, _⟩ := h
    rfl
  · obtain ⟨v, n, ws, rfl, hB, hw, q⟩ := h
    obtain ⟨a, t, rfl, h1, h2⟩ := dp_book hB
    refine ⟨_, (pss_cons (ps_set (i := 1) sc_ends_of.nd rfl (Or.inr rfl) (pe_dc (own := [("at", 2), ("spot", 3)]) (g := gTup K 2 (gCons (gName 2) (gCons (gName 3) gNil))) (tt := tYes) rfl sc_ends_of.nd (pi_enumK (K := K) T.b_enumerate (pa_cons (pe_callO (ok_places_of T) hG (hr.mono (by decide)) (pa_cons (pv 0) pa_nil)) pa_nil)) (blkOk_by (own := [("at", 2), ("spot", 3)]) (N := n_ends_of) (sc := defScope s_ends_of) (by decide +kernel)) (fun _ _ _ _ _ => (pg_tup rfl (pgs_cons (pg_name (i := 2) sc_ends_of.nd rfl (Or.inl rfl)) (pgs_cons (pg_name (i := 3) sc_ends_of.nd rfl (Or.inl rfl)) pgs_nil)))) (fun _ _ _ _ _ => pts_nil) (fun _ _ _ _ _ => (pv 3)) (fun _ _ _ _ _ => (pv 2)))) (pss_one (ps_ret (pe_lc (own := [("window", 4)]) (g := gName 4) (tt := tYes) rfl sc_ends_of.nd (pi_tupK (K := K) (pe_ix (ix_tupK (K := K)) (pv 0) pe_int (fun _ _ => rfl))) (blkOk_by (own := [("window", 4)]) (N := n_ends_of) (sc := defScope s_ends_of) (by decide +kernel)) (fun _ _ _ _ _ => pg_name (i := 4) sc_ends_of.nd rfl (Or.inl rfl)) (fun _ _ _ _ _ => pts_nil) (fun _ _ _ _ _ => (pe_tup (pa_cons (pe_dget (hu_of hr) (pv 1) (pe_slice sl_str (pv 4) po_none (po_some (pe_un un_neg pe_int))) (fun _ _ => rfl)) (pa_cons (pe_dget (hu_of hr) (pv 1) (pe_slice sl_str (pv 4) (po_some pe_int) po_none) (fun _ _ => rfl)) pa_nil)))))))), ?_⟩
    have few := hw.few
    have plen := places_len ws
    refine ⟨_, rfl, .ref a, n, ws, rfl, hB, fun x hx => (hw.wd x hx).2, hw.few, fun u H1 e1 hu => ?_⟩
    obtain ⟨pl, rfl, hS⟩ := dp_strsL hu
    refine ⟨pl, _, rfl, hS, fun D nD => ?_⟩
    have S := src_enum (K := K) hS
    rw [List.length_map] at S
    refine dc_vals S (asc_nodup (places_asc ws)) (by omega) (fun i _ => .int (i : Int)) (fun z => .int (ixP ws z : Int)) (fun i z hz => by rw [ixP_of hz]) nD (fun i z x H2 C Z hz e2 it hc => ?_) (fun H2 e2 hD => ?_)
    · obtain ⟨T', y, rfl, hT, hy⟩ := it
      obtain ⟨z', hz', rfl⟩ := str_at hy
      rw [hz] at hz'
      cases hz'
      exact ⟨T', _, rfl, SqT.of hT, rfl, _, _, rfl, _, _, rfl, rfl, rfl, lc_yes ⟨_, rfl, _, rfl, hc _ (Ex.refl _)⟩⟩
    · have e02 := e1.trans e2
      refine ⟨_, rfl, _, _, _, _, rfl, rfl, ex_t e02 h1, atI_of (j := 1) rfl rfl, t, rfl, ⟨_, ex_t e02 h2⟩, fun D2 nD2 => ?_⟩
      refine lcs_tp (ex_t e02 h2) (fun _ => true) (endD ws) nD2 (by omega) (fun _ _ => rfl) (fun z H3 Y Z hz e3 hy hn => ?_) (fun H3 acc e3 hD3 ha => ?_)
      · have zl := (hw.wd z hz).2
        have pb : begS z ∈ places ws := places_mem.mpr (beg_mem hz)
        have pe : endS z ∈ places ws := places_mem.mpr (end_mem hz)
        refine ⟨rfl, lc_yes ?_⟩
        refine ⟨_, rfl, _, rfl, 1, rfl, _, rfl, z, rfl, sz_of (by omega), ?_⟩
        rw [show cutS z none (some (-1)) = begS z from cut_beg z]
        have g1 := DGet.k (k := kS (begS z)) (e3 _ _ hD)
        rw [fkv_val pb] at g1
        refine ⟨D, _, rfl, g1, _, rfl, _, rfl, 1, rfl, z, rfl, sz_of (by omega), ?_⟩
        rw [cut_end]
        have g2 := DGet.k (k := kS (endS z)) (e3 _ _ hD)
        rw [fkv_val pe] at g2
        exact ⟨D, _, rfl, g2, sz_of (by show 2 ≤ 1000000; decide), fun p np => hy rfl _ _ (Ex.new np) (.tup (SqT.of upd_same) (.cons (.int _) (.cons (.int _) .nil)))⟩
      · rw [filter_true] at ha
        exact q _ _ (e02.trans e3) (.lst (SqL.of hD3) ha)
/-! excesses -/
theorem set_map {ks : List Str} {g : Str → V} {p : Str} {j : Nat} {v : V} (nd : ks.Nodup) (h : ks[j]? = some p) : (ks.map g).set j v = ks.map fun z => if z = p then v else g z := by
  apply List.ext_getElem?
  intro i
  rw [List.getElem?_set, List.length_map, List.getElem?_map, List.getElem?_map]
  have hj := (List.getElem?_eq_some_iff.mp h).1
  by_cases e : j = i
  · subst e
    rw [if_pos rfl, if_pos hj, h]
    show some v = some (if p = p then v else g p)
    rw [if_pos rfl]
  · rw [if_neg e]
    cases hi : ks[i]? with
    | none => rfl
    | some z =>
      have hz : z ≠ p := fun q => e (by
        subst q
        have l2 := (List.getElem?_eq_some_iff.mp hi).1
        have e1 := (List.getElem?_eq_some_iff.mp h).2
        have e2 := (List.getElem?_eq_some_iff.mp hi).2
        exact (List.getElem_inj (h₀ := hj) (h₁ := l2) nd).mp (e1.trans e2.symm))
      show some (g z) = some (if z = p then v else g z)
      rw [if_neg hz]
theorem ixN_at {n j : Nat} (h : j < n) : ixN n (j : Int) = some j := by
  unfold ixN
  rw [if_pos (by omega), if_pos (by omega), Int.toNat_natCast]
def exV (ws ps : List Str) (c : Str → Nat) : List V := ps.map fun p => V.int ((inC ws c p : Int) - (outC ws c p : Int))
def exD (ws ps : List Str) (c : Str → Nat) : PyData := .list (ps.map fun p => .int ((inC ws c p : Int) - (outC ws c p : Int)))
def sp_excesses (K : PySem.W.Frag) : Sp := fun vs H Q _ => ∃ (v : V) (b : Addr) (ws : List Str) (c : Str → Nat), vs = [.int (places ws).length, v, .ref b] ∧ Dp K H v (endsD ws) ∧ SqT K H b (cntV ws c) ∧ Ws ws ∧ RetD K (exD ws (places ws) c) H Q
theorem ok_excesses (T : Tx K mg) : Ok P w K mg base CX0 1 "excesses" ["size", "ends", "counts"] (sp_excesses K) := by
  refine T.d_excesses.ok sc_excesses (fun vs H Q E h => ?_) (fun f cdv A outer s H vs Q E hG hr h => ?_)
  · obtain ⟨v, b, ws, c, rfl, _⟩ := h
    rfl
  · obtain ⟨v, b, ws, c, rfl, hE, hc, hw, q⟩ := h
    refine ⟨_, (pss_cons (ps_set (i := 3) sc_excesses.nd rfl (Or.inl rfl) (pe_op op_rep (pe_lst (pa_cons pe_int pa_nil)) (pv 0))) (pss_cons (ps_for PassesOwn.never rfl (pi_zq (K := K) T.b_zip (pa_cons (pv 1) (pa_cons (pv 2) pa_nil))) (pg_tup rfl (pgs_cons (pg_tup rfl (pgs_cons (pg_name (i := 4) sc_excesses.nd rfl (Or.inl rfl)) (pgs_cons (pg_name (i := 5) sc_excesses.nd rfl (Or.inl rfl)) pgs_nil))) (pgs_cons (pg_name (i := 6) sc_excesses.nd rfl (Or.inl rfl)) pgs_nil))) (pss_cons (ps_augS (pv 3) (pv 4) (get_listK (K := K)) (pv 6) ip_sub set_list) (pss_one (ps_augS (pv 3) (pv 5) (get_listK (K := K)) (pv 6) ip_add set_list)))) (pss_one (ps_ret (pv 3))))), ?_⟩
    have few := hw.few
    have plen := places_len ws
    obtain ⟨a, xs, rfl, hA, hd⟩ := dp_lst hE
    have xl : xs.length = ws.length := by rw [dpa_len hd, List.length_map]
    have cl : (cntV ws c).length = ws.length := cntV_len
    have nd : (places ws).Nodup := asc_nodup (places_asc ws)
    refine ⟨sz_of (by show 1 ≤ 1000000; decide), fun l nl => ⟨_, rfl, l, _, [.int 0], rfl, rfl, upd_same, by omega, by omega, by rw [Int.toNat_natCast]; exact sz_of (by show 1 * _ ≤ _; omega), fun F nF => ?_⟩⟩
    have el : Ex H (upd H l (.lst [.int 0])) := Ex.new nl
    have eF : Ex H (upd (upd H l (.lst [.int 0])) F (.lst (List.replicate ((places ws).length : Int).toNat [V.int 0]).flatten)) := el.trans (Ex.new nF)
    have hF : (upd (upd H l (.lst [.int 0])) F (.lst (List.replicate ((places ws).length : Int).toNat [V.int 0]).flatten)) F = some (.lst (exV (ws.take 0) (places ws) c)) := by
      rw [upd_same, Int.toNat_natCast]
      congr 2
      unfold exV
      generalize places ws = ps
      induction ps with
      | nil => rfl
      | cons p ps ih =>
        rw [List.length_cons, List.replicate_succ, List.flatten_cons, List.map_cons, ih]
        rfl
    have HF : H F = none := fresh_back el nF
    generalize upd (upd H l (.lst [.int 0])) F (.lst (List.replicate ((places ws).length : Int).toNat [V.int 0]).flatten) = H1 at eF hF
    refine ⟨_, rfl, _, rfl, true, false, a, b, xs, cntV ws c, rfl, ex_l eF hA, ex_t eF hc, ?_⟩
    refine for_src (src_zq (b1 := true) (b2 := false) hA hc) (fun i σ H' => ∃ x4 x5 x6, σ = [some (.int (places ws).length), some (.ref a), some (.ref b), some (.ref F), x4, x5, x6] ∧ Ex H H' ∧ H' F = some (.lst (exV (ws.take i) (places ws) c))) ?_ ?_ ?_ ?_
    · exact ⟨none, none, none, rfl, eF, hF⟩
    · exact fun i σ H' ⟨_, _, _, _, e, _⟩ => e
    · rintro i x σ H2 H3 hi ⟨x4, x5, x6, rfl, e, hF⟩ e3 ⟨T', u, y, rfl, hT, hu, hy⟩
      obtain ⟨z, hz, rfl⟩ := cntV_at hy
      obtain ⟨d, hd1, hd2⟩ := dpa_get hd hu
      rw [List.getElem?_map, hz] at hd1
      cases hd1
      obtain ⟨q2, vs, rfl, hq2, hvs⟩ := dp_tup hd2
      have evs : vs = [.int (ixP ws (begS z) : Int), .int (ixP ws (endS z) : Int)] := by
        cases hvs with
        | cons g1 g2 =>
          cases g1
          cases g2 with
          | cons g1 g2 =>
            cases g1
            cases g2
            rfl
      subst evs
      have zw := List.mem_of_getElem? hz
      have pb : begS z ∈ places ws := places_mem.mpr (beg_mem zw)
      have pe : endS z ∈ places ws := places_mem.mpr (end_mem zw)
      have ab := ixP_at pb
      have ae := ixP_at pe
      have lb := (List.getElem?_eq_some_iff.mp ab).1
      have le := (List.getElem?_eq_some_iff.mp ae).1
      have h3 := e3 _ _ hF
      have xl2 : (exV (ws.take i) (places ws) c).length = (places ws).length := List.length_map ..
      refine ⟨T', _, rfl, SqT.of hT, rfl, _, _, rfl, q2, _, rfl, ex_t (e.trans e3) hq2, rfl, _, _, rfl, _, _, rfl, rfl, _, _, rfl, rfl, ?_⟩
      refine ⟨_, rfl, _, rfl, F, _, _, V.int ((inC (ws.take i) c (begS z) : Int) - (outC (ws.take i) c (begS z) : Int)), rfl, rfl, SqL.of h3, atI_of (j := ixP ws (begS z)) rfl ?_, _, rfl, _, _, rfl, rfl, F, _, _, ixP ws (begS z), rfl, rfl, h3, ?_, ?_⟩
      · unfold exV
        rw [List.getElem?_map, ab]
        rfl
      · rw [xl2]
        exact ixN_at lb
      unfold exV
      rw [set_map nd ab]
      have f1 : (fun p => if p = begS z then V.int ((inC (ws.take i) c (begS z) : Int) - (outC (ws.take i) c (begS z) : Int) - (c z : Int)) else V.int ((inC (ws.take i) c p : Int) - (outC (ws.take i) c p : Int))) = fun p => V.int ((inC (ws.take i) c p : Int) - (outC (ws.take i) c p : Int) - (if begS z = p then (c z : Int) else 0)) := funext fun p => by
        by_cases h : p = begS z
        · rw [if_pos h, if_pos h.symm, h]
        · rw [if_neg h, if_neg fun q => h q.symm, Int.sub_zero]
      dsimp only
      rw [f1]
      have h4 : (upd H3 F (.lst ((places ws).map fun p => V.int ((inC (ws.take i) c p : Int) - (outC (ws.take i) c p : Int) - (if begS z = p then (c z : Int) else 0))))) F = some (.lst _) := upd_same
      refine ⟨_, rfl, _, rfl, F, _, _, V.int ((inC (ws.take i) c (endS z) : Int) - (outC (ws.take i) c (endS z) : Int) - (if begS z = endS z then (c z : Int) else 0)), rfl, rfl, SqL.of h4, atI_of (j := ixP ws (endS z)) rfl ?_, _, rfl, _, _, rfl, rfl, F, _, _, ixP ws (endS z), rfl, rfl, h4, ?_, ?_⟩
      · rw [List.getElem?_map, ae]
        rfl
      · rw [List.length_map]
        exact ixN_at le
      rw [set_map nd ae, upd_upd]
      refine ⟨_, _, _, rfl, Ex.mut (e.trans e3) HF, ?_⟩
      rw [upd_same]
      congr 2
      refine List.map_congr_left fun p _ => ?_
      have e1 : inC (ws.take (i + 1)) c p = inC (ws.take i) c p + if endS z = p then c z else 0 := by
        rw [take_snoc hz]
        exact sumK_snoc
      have e2 : outC (ws.take (i + 1)) c p = outC (ws.take i) c p + if begS z = p then c z else 0 := by
        rw [take_snoc hz]
        exact sumK_snoc
      rw [e1, e2]
      by_cases h1 : endS z = p
      · rw [if_pos h1, if_pos h1.symm]
        subst h1
        by_cases h2 : begS z = endS z
        · rw [if_pos h2, if_pos h2]
          congr 1
          try dsimp only
          omega
        · rw [if_neg h2, if_neg h2]
          congr 1
          try dsimp only
          omega
      · rw [if_neg h1, if_neg fun q => h1 q.symm]
        by_cases h2 : begS z = p
        · rw [if_pos h2, if_pos h2]
          congr 1
          try dsimp only
          omega
        · rw [if_neg h2, if_neg h2]
          congr 1
          try dsimp only
          omega
    · rintro σ H' ⟨x4, x5, x6, rfl, e, hF⟩
      rw [xl, cl, Nat.min_self, List.take_length] at hF
      refine ⟨_, rfl, q _ _ e (.lst (SqL.of hF) ?_)⟩
      unfold exV
      generalize places ws = ps
      induction ps with
      | nil => exact .nil
      | cons p ps ih => exact .cons (.int _) ih
/-! counts -/
def sp_are_counts (K : PySem.W.Frag) : Sp := fun vs H Q _ => ∃ (v : V) (n : Nat) (b : Addr) (ws : List Str) (c : Str → Nat), vs = [v, .ref b] ∧ Dp K H v (bookD n ws) ∧ SqT K H b (cntV ws c) ∧ Ws ws ∧ RetD K (.bool true) H Q
theorem ok_are_counts (T : Tx K mg) : Ok P w K mg base CX0 2 "are_counts" ["book", "value"] (sp_are_counts K) := by
  refine T.d_are_counts.ok sc_are_counts (fun vs H Q E h => ?_) (fun f cdv A outer s H vs Q E hG hr h => ?_)
  · obtain ⟨v, n, b, ws, c, rfl, _⟩ := h
    rfl
  · obtain ⟨v, n, b, ws, c, rfl, hB, hc, hw, q⟩ := h
    obtain ⟨a, t, rfl, h1, h2⟩ := dp_book hB
    refine ⟨_, (pss_cons (ps_if (PW.pt (pw_or (pt_not (pt_val (pe_callB (call_isiK2 (K := K)) (by rfl) T.b_isinstance (by decide +kernel) (pa_cons (pv 1) (pa_cons (pe_gty (T := "tuple") T.b_tuple (by decide +kernel)) pa_nil))))) (pw_or1 (pt_cmpR op_ne (pe_callB (call_lenK (K := K)) (by rfl) T.b_len PySem.boot_len (pa_cons (pv 1) pa_nil)) (pe_callB (call_lenK (K := K)) (by rfl) T.b_len PySem.boot_len (pa_cons (pe_ix (ix_tupK (K := K)) (pv 0) pe_int (fun _ _ => rfl)) pa_nil)) (nomark _))))) (pss_one (ps_ret pe_bl)) pss_nil) (pss_one (ps_ret (pe_callB (cr_allK (K := K) rfl) (by rfl) T.b_all (by decide +kernel) (pa_cons (pe_lc (own := [("count", 2)]) (g := gName 2) (tt := tYes) rfl sc_are_counts.nd (pi_tupK (K := K) (pv 1)) (blkOk_by (own := [("count", 2)]) (N := n_are_counts) (sc := defScope s_are_counts) (by decide +kernel)) (fun _ _ _ _ _ => pg_name (i := 2) sc_are_counts.nd rfl (Or.inl rfl)) (fun _ _ _ _ _ => pts_nil) (fun _ _ _ _ _ => (pe_and (pe_callO (ok_is_integer T) hG (hr.mono (by decide)) (pa_cons (pv 2) pa_nil)) (pe_one (pe_cmpR op_ge (pv 2) pe_int (nomark _)))))) pa_nil))))), ?_⟩
    have few := hw.few
    have cl : (cntV ws c).length = ws.length := cntV_len
    refine ⟨_, rfl, _, _, _, _, true, rfl, .ty _, tyT hc, kit_ty (by decide +kernel), true, rfl, iteF ?_⟩
    refine ⟨_, rfl, b, _, rfl, .inr hc, _, rfl, _, _, _, _, rfl, rfl, h1, atI_of (j := 1) rfl rfl, t, _, rfl, .inr h2, rfl, ?_⟩
    rw [cl, List.length_map]
    refine ⟨_, rfl, ?_⟩
    rw [decide_eq_true (rfl : V.int (ws.length : Int) = V.int (ws.length : Int))]
    refine iteF ⟨_, rfl, b, rfl, ⟨_, hc⟩, fun D np => ?_⟩
    refine lc_tp hc (fun _ => true) (fun _ => .bool true) np (by omega) (fun _ _ => rfl) (fun i x H2 Y Z hi e it hy _ => ?_) (fun H' acc e hp hd => ?_)
    · obtain ⟨z, hz, rfl⟩ := cntV_at it
      refine ⟨rfl, lc_yes ⟨_, rfl, _, rfl, true, rfl, iteT ⟨_, rfl, _, _, rfl, rfl, ?_⟩⟩⟩
      show Y (.bl (decide ((0 : Int) ≤ (c z : Int)))) H2
      rw [decide_eq_true (show (0 : Int) ≤ (c z : Int) by omega)]
      exact hy rfl _ _ (Ex.refl _) (.bl true)
    · rw [givenD_all] at hd
      have hb : acc = ((List.range (cntV ws c).length).map fun _ => true).map V.bl := bls_dpa (by rw [List.map_map]; exact hd)
      subst hb
      refine ⟨_, _, rfl, SqL.of hp, q _ _ e ?_⟩
      rw [show (((List.range (cntV ws c).length).map fun _ => true).all id) = true from List.all_eq_true.mpr fun b hb => by
        obtain ⟨_, _, rfl⟩ := List.mem_map.mp hb
        rfl]
      exact .bl true
def sp_need_counts (K : PySem.W.Frag) : Sp := fun vs H Q _ => ∃ (v : V) (n : Nat) (b : Addr) (ws : List Str) (c : Str → Nat), vs = [v, .ref b] ∧ Dp K H v (bookD n ws) ∧ SqT K H b (cntV ws c) ∧ Ws ws ∧ ∀ H', Ex H H' → Q .non H'
theorem ok_need_counts (T : Tx K mg) : Ok P w K mg base CX0 3 "need_counts" ["book", "counts"] (sp_need_counts K) := by
  refine T.d_need_counts.ok sc_need_counts (fun vs H Q E h => ?_) (fun f cdv A outer s H vs Q E hG hr h => ?_)
  · obtain ⟨v, n, b, ws, c, rfl, _⟩ := h
    rfl
  · obtain ⟨v, n, b, ws, c, rfl, hB, hc, hw, q⟩ := h
    refine ⟨_, (pss_one (ps_if (pt_not (pt_val (pe_callO (ok_are_counts T) hG (hr.mono (by decide)) (pa_cons (pv 0) (pa_cons (pv 1) pa_nil))))) (pss_one ps_never) pss_nil)), ?_⟩
    refine ⟨_, rfl, _, rfl, v, n, b, ws, c, rfl, hB, hc, hw, fun u H3 e3 hv => ?_⟩
    obtain rfl := dp_bl hv
    exact ⟨true, rfl, iteF (q _ e3)⟩
noncomputable def balB (ws : List Str) (c : Str → Nat) : Bool := @decide (Bal ws c) (Classical.propDecidable _)
theorem balB_iff {ws : List Str} {c : Str → Nat} : balB ws c = true ↔ Bal ws c := by
  unfold balB
  exact @decide_eq_true_iff _ (Classical.propDecidable _)
theorem bal_plc {ws : List Str} {c : Str → Nat} (h : ∀ p ∈ places ws, (inC ws c p : Int) - (outC ws c p : Int) = 0) : Bal ws c := fun p => by
  by_cases hp : p ∈ places ws
  · have := h p hp
    omega
  · unfold outC inC
    rw [sumK_zero.mpr fun x hx (e : begS x = p) => absurd (places_mem.mpr (e ▸ beg_mem hx)) hp, sumK_zero.mpr fun x hx (e : endS x = p) => absurd (places_mem.mpr (e ▸ end_mem hx)) hp]
def sp_are_balanced (K : PySem.W.Frag) : Sp := fun vs H Q _ => ∃ (v : V) (n : Nat) (b : Addr) (ws : List Str) (c : Str → Nat), vs = [v, .ref b] ∧ Dp K H v (bookD n ws) ∧ SqT K H b (cntV ws c) ∧ Ws ws ∧ RetD K (.bool (balB ws c)) H Q
theorem ok_are_balanced (T : Tx K mg) : Ok P w K mg base CX0 3 "are_balanced" ["book", "counts"] (sp_are_balanced K) := by
  refine T.d_are_balanced.ok sc_are_balanced (fun vs H Q E h => ?_) (fun f cdv A outer s H vs Q E hG hr h => ?_)
  · obtain ⟨v, n, b, ws, c, rfl, _⟩ := h
    rfl
  · obtain ⟨v, n, b, ws, c, rfl, hB, hc, hw, q⟩ := h
    refine ⟨_, (pss_one (ps_ret (pe_callB (cr_allK (K := K) rfl) (by rfl) T.b_all (by decide +kernel) (pa_cons (pe_lc (own := [("extra", 2)]) (g := gName 2) (tt := tYes) rfl sc_are_balanced.nd (pi_listK (K := K) (pe_callO (ok_excesses T) hG (hr.mono (by decide)) (pa_cons (pe_callB (call_lenK (K := K)) (by rfl) T.b_len PySem.boot_len (pa_cons (pe_callO (ok_places_of T) hG (hr.mono (by decide)) (pa_cons (pv 0) pa_nil)) pa_nil)) (pa_cons (pe_callO (ok_ends_of T) hG (hr.mono (by decide)) (pa_cons (pv 0) pa_nil)) (pa_cons (pv 1) pa_nil))))) (blkOk_by (own := [("extra", 2)]) (N := n_are_balanced) (sc := defScope s_are_balanced) (by decide +kernel)) (fun _ _ _ _ _ => pg_name (i := 2) sc_are_balanced.nd rfl (Or.inl rfl)) (fun _ _ _ _ _ => pts_nil) (fun _ _ _ _ _ => (pe_cmpR op_eq (pv 2) pe_int (nomark _)))) pa_nil)))), ?_⟩
    have few := hw.few
    have plen := places_len ws
    refine ⟨_, rfl, v, n, ws, rfl, hB, fun x hx => (hw.wd x hx).2, hw.few, fun u H1 e1 hu => ?_⟩
    obtain ⟨pl, rfl, hS⟩ := dp_strsL hu
    refine ⟨pl, _, rfl, .inl hS, _, rfl, v, n, ws, rfl, dp_ex e1 hB, hw, fun u2 H2 e2 hu2 => ⟨_, rfl, u2, b, ws, c, by rw [List.length_map], hu2, ex_t (e1.trans e2) hc, hw, fun u3 H3 e3 hu3 => ?_⟩⟩
    obtain ⟨xl, xs, rfl, hX, hd⟩ := dp_lst hu3
    have e03 := (e1.trans e2).trans e3
    have ilen : ((places ws).map fun p => ((inC ws c p : Int) - (outC ws c p : Int))).length = (places ws).length := List.length_map ..
    have imem : ∀ p ∈ places ws, ((inC ws c p : Int) - (outC ws c p : Int)) ∈ (places ws).map fun p => ((inC ws c p : Int) - (outC ws c p : Int)) := fun p hp => List.mem_map.mpr ⟨p, hp, rfl⟩
    have iall : Bal ws c → ∀ i ∈ (places ws).map fun p => ((inC ws c p : Int) - (outC ws c p : Int)), i = 0 := fun b i hi => by
      obtain ⟨p, _, rfl⟩ := List.mem_map.mp hi
      have := b p
      omega
    have hd : DpAll K H3 xs (((places ws).map fun p => ((inC ws c p : Int) - (outC ws c p : Int))).map PyData.int) := by
      rw [List.map_map]
      exact hd
    generalize (places ws).map (fun p => ((inC ws c p : Int) - (outC ws c p : Int))) = is at *
    obtain rfl := ints_dpa hd
    refine ⟨xl, rfl, ⟨_, hX⟩, fun D np => ?_⟩
    refine lc_lst hX (fun _ => true) (fun i => .bool (decide (is.getD i 0 = 0))) np (by rw [List.length_map]; omega) (fun _ _ => rfl) (fun i x H4 Y Z hi e it hy _ => ?_) (fun H' acc e hp hd => ?_)
    · rw [List.length_map] at hi
      rw [get_map hi] at it
      cases it
      have ei : is.getD i 0 = is[i] := by rw [List.getD_eq_getElem?_getD, List.getElem?_eq_getElem hi]; rfl
      refine ⟨rfl, lc_yes ⟨_, rfl, rfl, ?_⟩⟩
      rw [show decide (V.int is[i] = V.int 0) = decide (is.getD i 0 = 0) from decide_eq_decide.mpr (by rw [ei]; exact ⟨fun h => V.int.inj h, fun h => by rw [h]⟩)]
      exact hy rfl _ _ (Ex.refl _) (.bl _)
    · rw [givenD_all] at hd
      have hb : acc = ((List.range (is.map V.int).length).map fun i => decide (is.getD i 0 = 0)).map V.bl := bls_dpa (by rw [List.map_map]; exact hd)
      subst hb
      refine ⟨_, _, rfl, SqL.of hp, q _ _ (e03.trans e) ?_⟩
      rw [show (((List.range (is.map V.int).length).map fun i => decide (is.getD i 0 = 0)).all id) = balB ws c from ?_]
      · exact .bl _
      rw [Bool.eq_iff_iff, balB_iff, List.all_map, List.all_eq_true]
      constructor
      · intro h
        refine bal_plc fun p hp => ?_
        obtain ⟨i, hi, hi2⟩ := List.getElem_of_mem (imem p hp)
        have := h i (List.mem_range.mpr (by rw [List.length_map]; exact hi))
        have := of_decide_eq_true this
        rw [List.getD_eq_getElem?_getD, List.getElem?_eq_getElem hi] at this
        rw [← hi2]
        exact this
      · intro b i hi
        have hi := List.mem_range.mp hi
        rw [List.length_map] at hi
        refine decide_eq_true ?_
        rw [List.getD_eq_getElem?_getD, List.getElem?_eq_getElem hi]
        exact iall b _ (List.getElem_mem hi)
def sp_balance (K : PySem.W.Frag) : Sp := fun vs H Q _ => ∃ (v : V) (n : Nat) (b : Addr) (ws : List Str) (c : Str → Nat), vs = [v, .ref b] ∧ Dp K H v (bookD n ws) ∧ SqT K H b (cntV ws c) ∧ Bk n ws ∧ RetD K (.bool (balB ws c)) H Q
theorem ok_balance (T : Tx K mg) : Ok P w K mg base CX0 5 "balance" ["book", "counts"] (sp_balance K) := by
  refine T.d_balance.ok sc_balance (fun vs H Q E h => ?_) (fun f cdv A outer s H vs Q E hG hr h => ?_)
  · obtain ⟨v, n, b, ws, c, rfl, _⟩ := h
    rfl
  · obtain ⟨v, n, b, ws, c, rfl, hB, hc, B, q⟩ := h
    refine ⟨_, (pss_cons (ps_expr (pe_callO (ok_need_book T) hG (hr.mono (by decide)) (pa_cons (pv 0) pa_nil))) (pss_cons (ps_expr (pe_callO (ok_need_counts T) hG (hr.mono (by decide)) (pa_cons (pv 0) (pa_cons (pv 1) pa_nil)))) (pss_one (ps_ret (pe_callO (ok_are_balanced T) hG (hr.mono (by decide)) (pa_cons (pv 0) (pa_cons (pv 1) pa_nil))))))), ?_⟩
    exact ⟨_, rfl, v, n, ws, rfl, hB, B, fun H1 e1 => ⟨_, rfl, _, rfl, v, n, b, ws, c, rfl, dp_ex e1 hB, ex_t e1 hc, B.ws, fun H2 e2 => ⟨_, rfl, _, rfl, v, n, b, ws, c, rfl, dp_ex (e1.trans e2) hB, ex_t (e1.trans e2) hc, B.ws, fun u H3 e3 hu => q u H3 ((e1.trans e2).trans e3) hu⟩⟩⟩
end

/-! ### counts of a ring text, a closed walk with counts -/
section
variable {P : Program} {w : World} {K : PySem.W.Frag} {mg : Str → Option Value} {base : Heap}
def rndC (n : Nat) (r : Str) (x : Str) : Nat := (rnd n r).count x
def sp_counts_of (K : PySem.W.Frag) : Sp := fun vs H Q _ => ∃ (v : V) (n : Nat) (ws : List Str) (r : Str), vs = [v, .str r] ∧ Dp K H v (bookD n ws) ∧ Bk n ws ∧ Word r ∧ 1 ≤ r.length ∧ r.length ≤ 10000 ∧ (∀ x ∈ rnd n r, x ∈ ws) ∧ RetD K (cntD ws (rndC n r)) H Q
theorem ok_counts_of (T : Tx K mg) : Ok P w K mg base CX0 5 "counts_of" ["book", "ring"] (sp_counts_of K) := by
  refine T.d_counts_of.ok sc_counts_of (fun vs H Q E h => ?_) (fun f cdv A outer s H vs Q E hG hr h => ?_)
  · obtain ⟨v, n, ws, r, rfl, _⟩ := h
    rfl
  · obtain ⟨v, n, ws, r, rfl, hB, B, hr1, hr2, hr3, hin, q⟩ := h
    refine ⟨_, (pss_cons (ps_expr (pe_callO (ok_need_book T) hG (hr.mono (by decide)) (pa_cons (pv 0) pa_nil))) (pss_cons (ps_expr (pe_callO (ok_need_ring T) hG (hr.mono (by decide)) (pa_cons (pv 1) pa_nil))) (pss_cons (ps_set (i := 2) sc_counts_of.nd rfl (Or.inr rfl) (pe_dc (own := [("window", 4)]) (g := gName 4) (tt := tYes) rfl sc_counts_of.nd (pi_tupK (K := K) (pe_ix (ix_tupK (K := K)) (pv 0) pe_int (fun _ _ => rfl))) (blkOk_by (own := [("window", 4)]) (N := n_counts_of) (sc := defScope s_counts_of) (by decide +kernel)) (fun _ _ _ _ _ => pg_name (i := 4) sc_counts_of.nd rfl (Or.inl rfl)) (fun _ _ _ _ _ => pts_nil) (fun _ _ _ _ _ => (pv 4)) (fun _ _ _ _ _ => pe_int))) (pss_cons (ps_for PassesOwn.never rfl (pi_listK (K := K) (pe_callO (ok_round_steps T) hG (hr.mono (by decide)) (pa_cons (pe_ix (ix_tupK (K := K)) (pv 0) pe_int (fun _ _ => rfl)) (pa_cons (pv 1) pa_nil)))) (pg_name (i := 3) sc_counts_of.nd rfl (Or.inl rfl)) (pss_cons (ps_if (pt_cmp (pc_dnotin (hu_of hr) (pv 3) (pv 2))) (pss_one ps_never) pss_nil) (pss_one (ps_daug (hu_of hr) (pv 2) (pv 3) pe_int in_add (fun _ _ _ => rfl))))) (pss_one (ps_ret (pe_callTy (call_tupleK (K := K)) (by rfl) T.b_tuple (by decide +kernel) (pa_cons (pe_lc (own := [("window", 4)]) (g := gName 4) (tt := tYes) rfl sc_counts_of.nd (pi_tupK (K := K) (pe_ix (ix_tupK (K := K)) (pv 0) pe_int (fun _ _ => rfl))) (blkOk_by (own := [("window", 4)]) (N := n_counts_of) (sc := defScope s_counts_of) (by decide +kernel)) (fun _ _ _ _ _ => pg_name (i := 4) sc_counts_of.nd rfl (Or.inl rfl)) (fun _ _ _ _ _ => pts_nil) (fun _ _ _ _ _ => (pe_dget (hu_of hr) (pv 2) (pv 4) (fun _ _ => rfl)))) pa_nil)))))))), ?_⟩
    obtain ⟨a, t, rfl, h1, h2⟩ := dp_book hB
    have few := B.few
    have nd : ws.Nodup := asc_nodup B.win.2
    have lm : (ws.map V.str).length = ws.length := List.length_map ..
    refine ⟨_, rfl, .ref a, n, ws, rfl, hB, B, fun H1 e1 => ⟨_, rfl, r, rfl, hr1, hr2, by omega, fun H2 e2 => ?_⟩⟩
    have e02 := e1.trans e2
    refine ⟨_, rfl, _, _, _, _, rfl, rfl, ex_t e02 h1, atI_of (j := 1) rfl rfl, t, rfl, ⟨_, ex_t e02 h2⟩, fun D nD => ?_⟩
    have S := src_tup (ex_t e02 h2)
    rw [lm] at S
    refine dc_vals S nd (by omega) (fun _ _ => .int 0) (fun _ => .int 0) (fun _ _ _ => rfl) nD (fun i z x H3 C Z hz e3 it hc => ?_) (fun H3 e3 hD => ?_)
    · obtain ⟨z', hz', rfl⟩ := str_at it
      rw [hz] at hz'
      cases hz'
      exact ⟨rfl, lc_yes ⟨_, rfl, hc _ (Ex.refl _)⟩⟩
    · have e03 := e02.trans e3
      refine ⟨_, rfl, _, _, _, _, rfl, rfl, ex_t e03 h1, atI_of (j := 0) rfl rfl, _, rfl, n, r, rfl, hr2, hr3, B.lo, B.hi, fun l H4 e4 nl hl => ?_⟩
      have nD0 : H D = none := fresh_back (e02) nD
      have lD : l ≠ D := fun z => by
        rw [z, hD] at nl
        cases nl
      have eb : Ex H (hide D H4) := My.Ex.hid (e03.trans e4) nD0
      refine ⟨l, rfl, fo_lst (Hb := hide D H4) (SqL.of (by rw [hide_ne lD]; exact hl)) (fun i σ H' => ∃ x3, σ = [some (.ref a), some (.str r), some (.ref D), x3, none] ∧ Ex (hide D H4) H' ∧ H' D = some (.dK (fkv (fun z => .int (((rnd n r).take i).count z : Int)) ws))) ?_ ?_ ?_ ?_⟩
      · exact ⟨none, rfl, hide_ex, e4 _ _ hD⟩
      · exact fun i σ H' ⟨_, _, e, _⟩ => e
      · rintro i x σ H' hi ⟨x3, rfl, e, hD⟩
        obtain ⟨z, hz, rfl⟩ := str_at hi
        have zw : z ∈ ws := hin z (List.mem_of_getElem? hz)
        have g1 := DGet.k (k := kS z) hD
        rw [fkv_val zw] at g1
        refine ⟨_, rfl, _, rfl, D, _, rfl, DGet.k (k := kS z) hD, _, rfl, ?_⟩
        rw [show (!(valV (fkv (fun z => V.int (((rnd n r).take i).count z : Int)) ws) (kS z)).isSome) = false by rw [fkv_in, decide_eq_true zw]; rfl]
        refine iteF ⟨_, rfl, _, rfl, D, _, rfl, g1, _, _, rfl, rfl, _, DPut.k (k := kS z) hD (sz_lt (by rw [fkv_len]; omega)), some (.str z), rfl, Ex.mut e hide_at, ?_⟩
        rw [upd_same, fkv_put_in zw]
        congr 2
        refine fkv_congr fun y _ => ?_
        rw [take_snoc hz, count_snoc]
        by_cases hy : y = z
        · rw [if_pos hy, if_pos hy, hy]
          rfl
        · rw [if_neg hy, if_neg hy]
          rfl
      · rintro σ H' ⟨x3, rfl, e, hD⟩
        rw [List.length_map, List.take_length] at hD
        have e04 := eb.trans e
        refine ⟨_, rfl, _, _, _, _, rfl, rfl, ex_t e04 h1, atI_of (j := 1) rfl rfl, t, rfl, ⟨_, ex_t e04 h2⟩, fun D2 nD2 => ?_⟩
        refine lcs_tp (ex_t e04 h2) (fun _ => true) (fun z => .int (rndC n r z : Int)) nD2 (by omega) (fun _ _ => rfl) (fun z H5 Y Z hz e5 hy hn => ?_) (fun H5 acc e5 hD5 ha => ?_)
        · have g := DGet.k (k := kS z) (e5 _ _ hD)
          rw [fkv_val hz] at g
          exact ⟨rfl, lc_yes ⟨_, rfl, _, rfl, D, _, rfl, g, hy rfl _ _ (Ex.refl _) (.int _)⟩⟩
        · rw [filter_true] at ha
          refine ⟨D2, _, rfl, .inl ⟨SqL.of hD5, fun l2 nl2 => q _ _ ((e04.trans e5).trans (Ex.new nl2)) (.tup (SqT.of upd_same) (dpa_ex (Ex.new nl2) ha))⟩⟩
/-- the last of a list that is not empty -/
theorem last_of {ws : List Str} {l : List Str} {y : Str} {K : PySem.W.Frag} : atI ((l ++ [y]).map V.str) (-1) = some (.str y) := by
  unfold atI
  have hl : ((l ++ [y]).map V.str).length = l.length + 1 := by rw [List.length_map, List.length_append]; rfl
  have : ixN ((l ++ [y]).map V.str).length (-1) = some l.length := by
    unfold ixN
    rw [hl, if_neg (by omega), if_pos (by omega)]
    congr 1
    omega
  rw [this]
  show ((l ++ [y]).map V.str)[l.length]? = _
  rw [List.getElem?_map, List.getElem?_append_right (Nat.le_refl _), Nat.sub_self]
  rfl
end

section
variable {P : Program} {w : World} {K : PySem.W.Frag} {mg : Str → Option Value} {base : Heap}
def ldI (ws : List Str) (c : Str → Nat) (i : Nat) (p : Str) : List Str := (ws.take i).filter fun x => decide (begS x = p) && decide (0 < c x)
theorem ldI_yes {ws : List Str} {c : Str → Nat} {i : Nat} {z p : Str} (h : ws[i]? = some z) (h0 : 0 < c z) : ldI ws c (i + 1) p = if p = begS z then ldI ws c i (begS z) ++ [z] else ldI ws c i p := by
  unfold ldI
  rw [take_snoc h, List.filter_append]
  by_cases e : p = begS z
  · rw [if_pos e, e, List.filter_cons_of_pos (by rw [decide_eq_true rfl, decide_eq_true h0]; rfl)]
    rfl
  · rw [if_neg e, List.filter_cons_of_neg (by rw [decide_eq_false fun q => e q.symm]; exact Bool.false_ne_true)]
    exact List.append_nil _
theorem ldI_no {ws : List Str} {c : Str → Nat} {i : Nat} {z p : Str} (h : ws[i]? = some z) (h0 : ¬ 0 < c z) : ldI ws c (i + 1) p = ldI ws c i p := by
  unfold ldI
  rw [take_snoc h, List.filter_append, List.filter_cons_of_neg (by rw [decide_eq_false h0, Bool.and_false]; exact Bool.false_ne_true)]
  exact List.append_nil _
theorem ldI_len {ws : List Str} {c : Str → Nat} {i : Nat} {p : Str} : (ldI ws c i p).length ≤ ws.length := by
  unfold ldI
  have := List.length_filter_le (fun x => decide (begS x = p) && decide (0 < c x)) (ws.take i)
  rw [List.length_take] at this
  omega
theorem Ld.init {ws : List Str} {c : Str → Nat} : Ld ws c (ldI ws c ws.length) := by
  unfold ldI
  rw [List.take_length]
  refine ⟨fun v x hx => ?_, fun x hx h => List.mem_filter.mpr ⟨hx, by rw [decide_eq_true rfl, decide_eq_true h]; rfl⟩⟩
  obtain ⟨h1, h2⟩ := List.mem_filter.mp hx
  exact ⟨h1, of_decide_eq_true (Bool.and_eq_true_iff.mp h2).1⟩
theorem atI_lastV {l : List V} {y : V} : atI (l ++ [y]) (-1) = some y := by
  unfold atI
  have hl : (l ++ [y]).length = l.length + 1 := by rw [List.length_append]; rfl
  have : ixN (l ++ [y]).length (-1) = some l.length := by
    unfold ixN
    rw [hl, if_neg (by omega), if_pos (by omega)]
    congr 1
    omega
  rw [this]
  show (l ++ [y])[l.length]? = _
  rw [List.getElem?_append_right (Nat.le_refl _), Nat.sub_self]
  rfl
theorem ts_two {t u : TS} {σ : L2.St} {H : Hp} {D : Ends} (P : L2.St → Hp → Prop) (ht : ∀ D' : Ends, (∀ σ' H', P σ' H' → D'.nx σ' H') → t D' σ H) (hq : ∀ σ' H', P σ' H' → u D σ' H') : tSeq t u D σ H := ht _ hq
/-- the stack of a walk -/
def stk (st : Str) (r : List Str) : List (Str × Str) := (st, ("" : Str)) :: r.map fun w => (endS w, w)
theorem stk_snoc {st w : Str} {r : List Str} : stk st (r ++ [w]) = stk st r ++ [(endS w, w)] := by
  unfold stk
  rw [List.map_append]
  rfl
/-- where a walk stands, and how it goes on -/
inductive Cst (ws : List Str) (c : Str → Nat) (st : Str) (lf : Str → Nat) (ld : Str → List Str) : List (Str × Str) → List Str → Prop
  | on {r f : List Str} {here m : Str} : Hz ws c st lf r f here m → Ld ws lf ld → r.length + f.length + (ws.map lf).sum = (ws.map c).sum → Cst ws c st lf ld (stk st r) f
  | off {f : List Str} : Eu ws c f.reverse → f.length ≤ (ws.map c).sum → Cst ws c st lf ld [] (f ++ [("" : Str)])
theorem sum_less {ws : List Str} {lf : Str → Nat} {y : Str} (nd : ws.Nodup) (hy : y ∈ ws) (h : 0 < lf y) : (ws.map lf).sum = (ws.map fun x => if x = y then lf y - 1 else lf x).sum + 1 := by
  have h1 := sum_one nd hy
  have h2 := sum_add (c := fun x => if x = y then lf y - 1 else lf x) (d := fun x => if x = y then 1 else 0) ws
  rw [h1] at h2
  rw [← h2]
  congr 1
  refine List.map_congr_left fun x _ => ?_
  by_cases e : x = y
  · rw [if_pos e, if_pos e, e]
    omega
  · rw [if_neg e, if_neg e]
    rfl
theorem cutV_tail (xs : List V) : cutV xs (some (1 : Int)) none = xs.drop 1 := by
  unfold cutV
  have e1 : HT.sIx xs.length 0 (some (1 : Int)) = min 1 xs.length := HT.sIx_nat _ _ 1
  have e2 : HT.sIx xs.length xs.length none = xs.length := rfl
  rw [e1, e2]
  by_cases h : 1 ≤ xs.length
  · rw [Nat.min_eq_left h, List.take_of_length_le (by rw [List.length_drop]; omega)]
  · rw [Nat.min_eq_right (by omega), List.drop_of_length_le (Nat.le_refl _), List.drop_of_length_le (by omega), List.take_nil]
theorem lastV {l : List V} {y : V} : (l ++ [y])[(l ++ [y]).length - 1]? = some y := by
  rw [List.length_append, show l.length + [y].length - 1 = l.length from rfl, List.getElem?_append_right (Nat.le_refl _), Nat.sub_self]
  rfl
theorem Two.unsnoc2 {α β : Type} {R : α → β → Prop} {a : α} {b : β} {as : List α} {bs : List β} (h : Two R (as ++ [a]) (bs ++ [b])) : Two R as bs ∧ R a b := by
  obtain ⟨bs', b', e, h1, h2⟩ := h.unsnoc
  obtain ⟨rfl, e2⟩ := List.append_inj' e rfl
  cases e2
  exact ⟨h1, h2⟩
def sp_closed_walk (K : PySem.W.Frag) : Sp := fun vs H Q _ => ∃ (v : V) (n : Nat) (b : Addr) (ws : List Str) (c : Str → Nat), vs = [v, .ref b] ∧ Dp K H v (bookD n ws) ∧ SqT K H b (cntV ws c) ∧ Bk n ws ∧ Bal ws c ∧ heldL ws c ≠ [] ∧ Hang (heldL ws c) ∧ (ws.map c).sum ≤ 100000 ∧
  ∀ r a H', Ex H H' → Eu ws c r → H' a = some (.lst (r.map V.str)) → Q (.ref a) H'
theorem ok_closed_walk (T : Tx K mg) : Ok P w K mg base CX0 2 "closed_walk" ["book", "counts"] (sp_closed_walk K) := by
  refine T.d_closed_walk.ok sc_closed_walk (fun vs H Q E h => ?_) (fun f cdv A outer s H vs Q E hG hr h => ?_)
  · obtain ⟨v, n, b, ws, c, rfl, _⟩ := h
    rfl
  · obtain ⟨v, n, b, ws, c, rfl, hB, hc, B, hbal, hne, hhang, hsum, q⟩ := h
    refine ⟨_, (pss_cons (ps_set (i := 2) sc_closed_walk.nd rfl (Or.inr rfl) (pe_dzip (K := K) rfl T.b_dict T.b_zip (pa_cons (pe_ix (ix_tupK (K := K)) (pv 0) pe_int (fun _ _ => rfl)) (pa_cons (pv 1) pa_nil)))) (pss_cons (ps_setDc (i := 3) (own := [("spot", 10)]) (g := gName 10) (tt := tYes) rfl sc_closed_walk.nd rfl rfl (sw_trueD rfl rfl rfl (by decide +kernel)) (pi_listK (K := K) (pe_callO (ok_places_of T) hG (hr.mono (by decide)) (pa_cons (pv 0) pa_nil))) (blkOk_by (own := [("spot", 10)]) (N := n_closed_walk) (sc := defScope s_closed_walk) (by decide +kernel)) (fun _ _ _ _ _ => pg_name (i := 10) sc_closed_walk.nd rfl (Or.inl rfl)) (fun _ _ _ _ _ => pts_nil) (fun _ _ _ _ _ => (pv 10)) (fun _ _ _ _ _ => (pe_lst pa_nil))) (pss_cons (ps_for PassesOwn.never rfl (pi_tupK (K := K) (pe_ix (ix_tupK (K := K)) (pv 0) pe_int (fun _ _ => rfl))) (pg_name (i := 4) sc_closed_walk.nd rfl (Or.inl rfl)) (pss_one (ps_if (pt_cmpR op_gt (pe_dget (hu_of hr) (pv 2) (pv 4) (fun _ _ => rfl)) pe_int (nomark _)) (pss_one (ps_expr (pe_bmK (K := K) PySem.F.plainAttrs_list PySem.F.slot_list_append PySem.F.type_list_append mt_append (pe_dget (hu_of hr) (pv 3) (pe_slice sl_str (pv 4) po_none (po_some (pe_un un_neg pe_int))) (fun _ _ => rfl)) (pa_cons (pv 4) pa_nil)))) pss_nil))) (pss_cons (ps_set (i := 5) sc_closed_walk.nd rfl (Or.inl rfl) (pe_slice sl_str (pe_ix (ix_listK (K := K)) (pe_lc (own := [("window", 4)]) (g := gName 4) rfl sc_closed_walk.nd (pi_tupK (K := K) (pe_ix (ix_tupK (K := K)) (pv 0) pe_int (fun _ _ => rfl))) (blkOk_by (own := [("window", 4)]) (N := n_closed_walk) (sc := defScope s_closed_walk) (by decide +kernel)) (fun _ _ _ _ _ => pg_name (i := 4) sc_closed_walk.nd rfl (Or.inl rfl)) (fun _ _ _ _ _ => pts_one (pt_cmpR op_gt (pe_dget (hu_of hr) (pv 2) (pv 4) (fun _ _ => rfl)) pe_int (nomark _))) (fun _ _ _ _ _ => (pv 4))) pe_int (fun _ _ => rfl)) po_none (po_some (pe_un un_neg pe_int)))) (pss_cons (ps_par (i := 6) (j := 7) rfl sc_closed_walk.nd rfl rfl (by decide) rfl rfl (pa_cons (pe_lst (pa_cons (pe_tup (pa_cons (pv 5) (pa_cons pe_str pa_nil))) pa_nil)) (pa_cons (pe_lst pa_nil) pa_nil)) (by rfl)) (pss_cons (ps_while PassesOwn.never (pt_cmpR op_gt (pe_callB (call_lenK (K := K)) (by rfl) T.b_len PySem.boot_len (pa_cons (pv 6) pa_nil)) pe_int (nomark _)) (pss_cons (ps_asg (pe_ix (ix_listK (K := K)) (pv 6) (pe_un un_neg pe_int) (fun _ _ => rfl)) (pg_tup rfl (pgs_cons (pg_name (i := 8) sc_closed_walk.nd rfl (Or.inl rfl)) (pgs_cons (pg_name (i := 9) sc_closed_walk.nd rfl (Or.inl rfl)) pgs_nil)))) (pss_cons (ps_while PassesOwn.never (PW.pt (pw_and (pt_cmpR op_gt (pe_callB (call_lenK (K := K)) (by rfl) T.b_len PySem.boot_len (pa_cons (pe_dget (hu_of hr) (pv 3) (pv 8) (fun _ _ => rfl)) pa_nil)) pe_int (nomark _)) (pw_and1 (pt_cmpR op_eq (pe_dget (hu_of hr) (pv 2) (pe_ix (ix_listK (K := K)) (pe_dget (hu_of hr) (pv 3) (pv 8) (fun _ _ => rfl)) (pe_un un_neg pe_int) (fun _ _ => rfl)) (fun _ _ => rfl)) pe_int (nomark _))))) (pss_one (ps_expr (pe_bm0K (K := K) PySem.F.plainAttrs_list PySem.F.slot_list_pop PySem.F.type_list_pop mt_pop (pe_dget (hu_of hr) (pv 3) (pv 8) (fun _ _ => rfl)))))) (pss_one (ps_if (pt_cmpR op_gt (pe_callB (call_lenK (K := K)) (by rfl) T.b_len PySem.boot_len (pa_cons (pe_dget (hu_of hr) (pv 3) (pv 8) (fun _ _ => rfl)) pa_nil)) pe_int (nomark _)) (pss_cons (ps_set (i := 4) sc_closed_walk.nd rfl (Or.inl rfl) (pe_ix (ix_listK (K := K)) (pe_dget (hu_of hr) (pv 3) (pv 8) (fun _ _ => rfl)) (pe_un un_neg pe_int) (fun _ _ => rfl))) (pss_cons (ps_daug (hu_of hr) (pv 2) (pv 4) pe_int in_sub (fun _ _ _ => rfl)) (pss_one (ps_expr (pe_bmK (K := K) PySem.F.plainAttrs_list PySem.F.slot_list_append PySem.F.type_list_append mt_append (pv 6) (pa_cons (pe_tup (pa_cons (pe_slice sl_str (pv 4) (po_some pe_int) po_none) (pa_cons (pv 4) pa_nil))) pa_nil)))))) (pss_cons (ps_expr (pe_bm0K (K := K) PySem.F.plainAttrs_list PySem.F.slot_list_pop PySem.F.type_list_pop mt_pop (pv 6))) (pss_one (ps_expr (pe_bmK (K := K) PySem.F.plainAttrs_list PySem.F.slot_list_append PySem.F.type_list_append mt_append (pv 7) (pa_cons (pv 9) pa_nil)))))))))) (pss_one (ps_ret (pe_slice (sl_listK (K := K)) (pe_revL (pv 7)) (po_some pe_int) po_none))))))))), ?_⟩
    obtain ⟨a, t, rfl, h1, h2⟩ := dp_book hB
    have few := B.few
    have nd : ws.Nodup := asc_nodup B.win.2
    have lm : (ws.map V.str).length = ws.length := List.length_map ..
    have plen := places_len ws
    refine ⟨_, rfl, _, _, _, _, rfl, rfl, h1, atI_of (j := 1) rfl rfl, _, rfl, false, false, t, b, ws, cntV ws c, rfl, h2, hc, cntV_len.symm, by omega, fun L nL => ?_⟩
    rw [show ((ws.zip (cntV ws c)).map fun kv => ((Sum.inr kv.1 : Key), kv.2)) = fkv (fun z => V.int (c z : Int)) ws from zip_fkv, merge_fkv nd]
    have eL : Ex H (upd H L (.dK (fkv (fun z => V.int (c z : Int)) ws))) := Ex.new nL
    have hL1 : (upd H L (.dK (fkv (fun z => V.int (c z : Int)) ws))) L = some (.dK (fkv (fun z => V.int (c z : Int)) ws)) := upd_same
    generalize upd H L (.dK (fkv (fun z => V.int (c z : Int)) ws)) = H1 at eL hL1
    refine ⟨_, rfl, .ref a, n, ws, rfl, dp_ex eL hB, fun x hx => by have := (B.win.1 x hx).2; have := B.hi; omega, by omega, fun u H2 e2 hu => ?_⟩
    obtain ⟨pl, rfl, hS⟩ := dp_strsL hu
    refine ⟨pl, rfl, ⟨_, hS⟩, fun D nD => ?_⟩
    have S := src_list (K := K) hS
    rw [List.length_map] at S
    refine dc_rows S (asc_nodup (places_asc ws)) (by omega) nD (fun i z x H3 C Z hz e3 it hc => ?_) (fun H3 rs W0 => ?_)
    · obtain ⟨z', hz', rfl⟩ := str_at it
      rw [hz] at hz'
      cases hz'
      exact ⟨rfl, lc_yes ⟨_, rfl, sz_of (by show 0 ≤ 1000000; decide), fun p np => hc p np⟩⟩
    have eB : Ex H (hide L H2) := My.Ex.hid (eL.trans e2) nL
    have hL3 := W0.e _ _ (e2 _ _ hL1)
    have W1 := W0.hid (L := L)
    have bL : hide L H2 L = none := hide_at
    have LD : D ≠ L := fun z => by
      have := e2 _ _ hL1
      rw [← z, nD] at this
      cases this
    generalize hide L H2 = Bs at eB W1 bL
    refine ⟨_, rfl, _, _, _, _, rfl, rfl, ex_t (eB.trans W1.e) h1, atI_of (j := 1) rfl rfl, t, rfl, fo_tp (Hb := Bs) (ex_t eB h2) (fun i σ H' => ∃ x4, σ = [some (.ref a), some (.ref b), some (.ref L), some (.ref D), x4, none, none, none, none, none, none] ∧ Wb Bs H' D (places ws) (ldI ws c i) rs ∧ H' L = some (.dK (fkv (fun z => V.int (c z : Int)) ws)))
      ⟨none, rfl, W1.as fun k _ => rfl, hL3⟩ (fun i σ H' ⟨_, _, W, _⟩ => W.e) ?_ ?_⟩
    · rintro i x σ H' hi ⟨x4, rfl, W, hL⟩
      obtain ⟨z, hz, rfl⟩ := str_at hi
      have zw := List.mem_of_getElem? hz
      have pb : begS z ∈ places ws := places_mem.mpr (beg_mem zw)
      have zl : z.length ≤ 6 := by have := (B.win.1 z zw).2; have := B.hi; omega
      have g := DGet.k (k := kS z) hL
      rw [fkv_val zw] at g
      refine ⟨_, rfl, _, rfl, L, _, rfl, g, _, _, rfl, rfl, _, rfl, ?_⟩
      by_cases h0 : 0 < c z
      · rw [show decide ((0 : Int) < (c z : Int)) = true from decide_eq_true (by omega)]
        refine iteT ⟨_, rfl, _, rfl, 1, rfl, _, rfl, z, rfl, sz_of (by omega), ?_⟩
        rw [show cutS z none (some (-1)) = begS z from cut_beg z]
        have g2 := DGet.k (k := kS (begS z)) W.hd
        rw [wkv_val pb] at g2
        have row := (W.row _ pb).2
        refine ⟨D, _, rfl, g2, .inl ⟨rfl, _, SqL.of row⟩, _, rfl, rs (begS z), _, _, rfl, rfl, row, sz_lt ?_, _, rfl, (W.app pb).as fun k _ => (ldI_yes hz h0).symm, ?_⟩
        · rw [List.length_map]
          have := ldI_len (ws := ws) (c := c) (i := i) (p := begS z)
          omega
        · rw [upd_ne (ne_of hL row fun q => nomatch q)]
          exact hL
      · rw [show decide ((0 : Int) < (c z : Int)) = false from decide_eq_false (by omega)]
        exact iteF ⟨_, rfl, W.as fun k _ => (ldI_no hz h0).symm, hL⟩
    · rintro σ H4 ⟨x4, rfl, W, hL⟩
      rw [lm] at W
      have e4 : Ex H H4 := eB.trans W.e
      obtain ⟨w0, hl, hw0⟩ : ∃ w0 hl, heldL ws c = w0 :: hl := by
        cases hh : heldL ws c with
        | nil => exact absurd hh hne
        | cons w0 hl => exact ⟨w0, hl, rfl⟩
      have w0h : w0 ∈ heldL ws c := by rw [hw0]; exact List.mem_cons_self ..
      obtain ⟨w0w, w0p⟩ := held_mem.mp w0h
      have w0l : w0.length ≤ 6 := by have := (B.win.1 w0 w0w).2; have := B.hi; omega
      refine ⟨_, rfl, _, _, _, _, rfl, rfl, ex_t e4 h1, atI_of (j := 1) rfl rfl, t, rfl, ⟨_, ex_t e4 h2⟩, fun D2 nD2 => ?_⟩
      refine lcs_tp (ex_t e4 h2) (fun z => decide (0 < c z)) PyData.str nD2 (by omega) (fun _ _ => rfl) (fun z H5 Y Z hz e5 hy hn => ?_) (fun H5 acc e5 hD2 ha => ?_)
      · have g := DGet.k (k := kS z) (e5 _ _ hL)
        rw [fkv_val hz] at g
        refine ⟨rfl, _, rfl, _, rfl, L, _, rfl, g, _, _, rfl, rfl, _, rfl, ?_⟩
        by_cases h0 : 0 < c z
        · rw [show decide ((0 : Int) < (c z : Int)) = true from decide_eq_true (by omega)]
          exact iteT ⟨_, rfl, hy (decide_eq_true h0) _ _ (Ex.refl _) (.str z)⟩
        · rw [show decide ((0 : Int) < (c z : Int)) = false from decide_eq_false (by omega)]
          exact iteF (hn (decide_eq_false h0) _ (Ex.refl _))
      have ha := strs_dpa ha
      subst ha
      rw [show (ws.filter fun z => decide (0 < c z)) = w0 :: hl from hw0] at hD2
      refine ⟨D2, _, 0, .str w0, rfl, rfl, SqL.of hD2, atI_of (j := 0) rfl rfl, 1, rfl, _, rfl, w0, rfl, sz_of (by omega), ?_⟩
      rw [show cutS w0 none (some (-1)) = begS w0 from cut_beg w0]
      refine ⟨_, rfl, sz_of (by show 2 ≤ 1000000; decide), fun q0 nq0 => ⟨sz_of (by show 1 ≤ 1000000; decide), fun TK nT => ⟨sz_of (by show 0 ≤ 1000000; decide), fun FD nF => ⟨_, _, rfl, ?_⟩⟩⟩⟩
      have stp : begS w0 ∈ places ws := places_mem.mpr (beg_mem w0w)
      have W5 := ((W.ex e5).new (o := .tup [.str (begS w0), .str ""]) nq0).new (o := .lst [.ref q0]) nT
      have W6 := W5.new (o := .lst []) nF
      have e45 : Ex H4 (upd (upd (upd H5 q0 (.tup [.str (begS w0), .str ""])) TK (.lst [.ref q0])) FD (.lst [])) := ((e5.trans (Ex.new nq0)).trans (Ex.new nT)).trans (Ex.new nF)
      have C0 : Cw Bs (upd (upd (upd H5 q0 (.tup [.str (begS w0), .str ""])) TK (.lst [.ref q0])) FD (.lst [])) ws L D TK FD rs c (ldI ws c ws.length) (stk (begS w0) []) [.ref q0] [] := by
        have q0T : q0 ≠ TK := ne_of_none upd_same nT
        have hT5 : (upd (upd H5 q0 (.tup [.str (begS w0), .str ""])) TK (.lst [.ref q0])) TK = some (.lst [.ref q0]) := upd_same
        have hq5 : (upd (upd H5 q0 (.tup [.str (begS w0), .str ""])) TK (.lst [.ref q0])) q0 = some (.tup [.str (begS w0), .str ""]) := by rw [upd_ne q0T]; exact upd_same
        refine ⟨bL, fresh_back ((W.ex e5).new (o := .tup [.str (begS w0), .str ""]) nq0).e nT, fresh_back W5.e nF, e45 _ _ hL, LD, W6, Ex.new nF _ _ hT5, .cons ⟨q0, rfl, Ex.new nF _ _ hq5⟩ .nil, by rw [upd_same]; rfl, ne_of_none hT5 nF, fun k hk => ⟨?_, ?_⟩⟩
        · exact ne_of_none (((W.ex e5).new (o := .tup [.str (begS w0), .str ""]) nq0).row k hk).2 nT
        · exact ne_of_none (W5.row k hk).2 nF
      have Z0 := Hz.start (st := begS w0) hbal
      generalize upd (upd (upd H5 q0 (.tup [.str (begS w0), .str ""])) TK (.lst [.ref q0])) FD (.lst []) = H6 at C0
      generalize hst : begS w0 = st at *
      clear W5 W6 e45
      refine ⟨fun m σ H' => ∃ x4 x8 x9 lf ld es vs fs, σ = [some (.ref a), some (.ref b), some (.ref L), some (.ref D), x4, some (.str st), some (.ref TK), some (.ref FD), x8, x9, none] ∧ Cw Bs H' ws L D TK FD rs lf ld es vs fs ∧ Cst ws c st lf ld es fs ∧ m = 2 * (ws.map lf).sum + es.length,
        ⟨_, _, _, _, c, _, _, _, _, rfl, C0, .on Z0 Ld.init (by show 0 + 0 + _ = _; omega), rfl⟩, ?_⟩
      rintro m σ H7 ⟨x4, x8, x9, lf, ld, es, vs, fs, rfl, C, S, rfl⟩
      have vl := C.tw.len
      refine ⟨_, rfl, TK, _, rfl, .inl (SqL.of C.hT), _, _, rfl, rfl, _, rfl, ?_⟩
      cases S with
      | off hE hf =>
        rename_i f
        have v0 : vs.length = 0 := vl
        rw [v0]
        rw [show decide ((0 : Int) < ((0 : Nat) : Int)) = false from rfl]
        refine iteF ⟨_, rfl, FD, _, rfl, SqL.of C.hF, fun p np => ⟨1, rfl, p, _, rfl, SqL.of upd_same, fun p2 np2 => ?_⟩⟩
        refine q f.reverse p2 _ (((eB.trans C.W.e).trans (Ex.new np)).trans (Ex.new np2)) hE ?_
        rw [upd_same, cutV_tail, List.map_append, List.reverse_append]
        show some (HO.lst ((([V.str ""] : List V).reverse ++ (f.map V.str).reverse).drop 1)) = _
        rw [List.map_reverse]
        rfl
      | @on r _ here mm Z Lds hlen =>
        have sl : (stk st r).length = r.length + 1 := by show (r.map _).length + 1 = _; rw [List.length_map]
        rw [show decide ((0 : Int) < (vs.length : Int)) = true from decide_eq_true (by omega)]
        obtain ⟨es', e, hes, he1, hcase⟩ : ∃ es' e, stk st r = es' ++ [e] ∧ e.1 = here ∧ ((r = [] ∧ es' = [] ∧ e.2 = ("" : Str)) ∨ ∃ r' w, r = r' ++ [w] ∧ es' = stk st r' ∧ e.2 = w) := by
          rcases snoc_cases r with rfl | ⟨r', w, rfl⟩
          · exact ⟨[], (st, ""), rfl, (show st = here from Z.path), .inl ⟨rfl, rfl, rfl⟩⟩
          · exact ⟨stk st r', (endS w, w), stk_snoc, (path_snoc.mp Z.path).2.2, .inr ⟨r', w, rfl, rfl, rfl⟩⟩
        have hplc : here ∈ places ws := by
          rcases snoc_cases r with rfl | ⟨r', w, rfl⟩
          · rw [← show st = here from Z.path]
            exact stp
          · obtain ⟨_, g2, g3⟩ := path_snoc.mp Z.path
            rw [← g3]
            exact places_mem.mpr (end_mem g2)
        refine iteT ⟨fun σ' H' => ∃ x4 x8 x9 lf' ld' es2 vs2 fs2, σ' = [some (.ref a), some (.ref b), some (.ref L), some (.ref D), x4, some (.str st), some (.ref TK), some (.ref FD), x8, x9, none] ∧ Cw Bs H' ws L D TK FD rs lf' ld' es2 vs2 fs2 ∧ Cst ws c st lf' ld' es2 fs2 ∧ 2 * (ws.map lf').sum + es2.length < 2 * (ws.map lf).sum + (stk st r).length,
          fun σ' H' ⟨x4, x8, x9, lf', ld', es2, vs2, fs2, g1, g2, g3, g4⟩ => ⟨_, g4, x4, x8, x9, lf', ld', es2, vs2, fs2, g1, g2, g3, rfl⟩, ?_⟩
        rw [hes] at C
        obtain ⟨vs', v, rfl, tw', q1, rfl, hq1⟩ := C.tw.unsnoc
        rw [he1] at hq1
        refine ⟨_, rfl, 1, rfl, TK, _, -1, .ref q1, rfl, rfl, SqL.of C.hT, atI_lastV, q1, _, rfl, SqT.of hq1, rfl, _, _, rfl, _, _, rfl, rfl, ?_⟩
        refine ts_two (t := tWhile _ _) (fun σ H' => ∃ ld', σ = [some (.ref a), some (.ref b), some (.ref L), some (.ref D), x4, some (.str st), some (.ref TK), some (.ref FD), some (.str here), some (.str e.2), none] ∧ Cw Bs H' ws L D TK FD rs lf ld' (es' ++ [e]) (vs' ++ [.ref q1]) fs ∧ Ld ws lf ld' ∧ (ld' here = [] ∨ ∃ l y, ld' here = l ++ [y] ∧ 0 < lf y)) (fun D' hD' => ?_) ?_
        · refine ⟨fun m σ H' => ∃ ld', σ = [some (.ref a), some (.ref b), some (.ref L), some (.ref D), x4, some (.str st), some (.ref TK), some (.ref FD), some (.str here), some (.str e.2), none] ∧ Cw Bs H' ws L D TK FD rs lf ld' (es' ++ [e]) (vs' ++ [.ref q1]) fs ∧ Ld ws lf ld' ∧ m = (ld' here).length, ⟨_, ld, rfl, C, Lds, rfl⟩, ?_⟩
          rintro m σ H8 ⟨ld', rfl, C, Lds, rfl⟩
          have row := (C.W.row _ hplc).2
          have g := DGet.k (k := kS here) C.W.hd
          rw [wkv_val hplc] at g
          refine ⟨_, rfl, _, rfl, D, _, rfl, g, rs here, _, rfl, .inl (SqL.of row), _, _, rfl, rfl, _, rfl, ?_⟩
          rw [List.length_map]
          rcases snoc_cases (ld' here) with hn | ⟨l, y, hn⟩
          · rw [hn]
            exact hD' _ _ ⟨ld', rfl, C, Lds, .inl hn⟩
          · have yw : y ∈ ws := (Lds.sub here y (by rw [hn]; exact List.mem_append_right _ (List.mem_singleton.mpr rfl))).1
            rw [hn] at row ⊢
            rw [show decide ((0 : Int) < ((l ++ [y]).length : Int)) = true from decide_eq_true (by rw [List.length_append]; show (0 : Int) < ((l.length + 1 : Nat) : Int); omega)]
            have gL := DGet.k (k := kS y) C.hL
            rw [fkv_val yw] at gL
            refine ⟨_, rfl, _, rfl, _, rfl, D, _, rfl, g, 1, rfl, rs here, _, -1, .str y, rfl, rfl, SqL.of row, by rw [List.map_append]; exact atI_lastV, L, _, rfl, gL, rfl, _, rfl, ?_⟩
            by_cases h0 : lf y = 0
            · rw [decide_eq_true (show V.int (lf y : Int) = V.int 0 by rw [h0]; rfl)]
              refine iteT ⟨fun σ' H' => ∃ ld2, σ' = [some (.ref a), some (.ref b), some (.ref L), some (.ref D), x4, some (.str st), some (.ref TK), some (.ref FD), some (.str here), some (.str e.2), none] ∧ Cw Bs H' ws L D TK FD rs lf ld2 (es' ++ [e]) (vs' ++ [.ref q1]) fs ∧ Ld ws lf ld2 ∧ (ld2 here).length < (l ++ [y]).length,
                fun σ' H' ⟨ld2, g1, g2, g3, g4⟩ => ⟨_, g4, ld2, g1, g2, g3, rfl⟩, ?_⟩
              refine ⟨_, rfl, _, rfl, D, _, rfl, g, .inl ⟨rfl, _, SqL.of row⟩, rs here, _, .str y, rfl, rfl, row, last_at, ?_⟩
              rw [drop_last]
              refine ⟨_, rfl, C.pop1 hplc, Lds.drop hn h0, ?_⟩
              rw [if_pos rfl, List.length_append]
              show l.length < l.length + 1
              omega
            · rw [decide_eq_false fun z => h0 (by have z := V.int.inj z; omega)]
              exact iteF (hD' _ _ ⟨ld', rfl, C, Lds, .inr ⟨l, y, hn, by omega⟩⟩)
        · rintro σ H8 ⟨ld', rfl, C, Lds, hend⟩
          have row := (C.W.row _ hplc).2
          have g := DGet.k (k := kS here) C.W.hd
          rw [wkv_val hplc] at g
          have vl2 := C.tw.len
          have el : (es' ++ [e]).length = es'.length + 1 := by rw [List.length_append]; rfl
          have sl2 : (stk st r).length = es'.length + 1 := by rw [hes]; exact el
          refine ⟨_, rfl, _, rfl, D, _, rfl, g, rs here, _, rfl, .inl (SqL.of row), _, _, rfl, rfl, _, rfl, ?_⟩
          rw [List.length_map]
          rcases hend with hn | ⟨l, y, hn, h0⟩
          · rw [hn]
            have o0 := Lds.none hn
            refine iteF ⟨_, rfl, .inl ⟨rfl, _, SqL.of C.hT⟩, TK, _, .ref q1, rfl, rfl, C.hT, lastV, ?_⟩
            rw [List.dropLast_concat]
            have C1 := C.setT C.tw.unsnoc2.1
            refine ⟨_, rfl, .inl ⟨rfl, _, SqL.of C1.hF⟩, _, rfl, FD, _, _, rfl, rfl, C1.hF, sz_lt (by rw [List.length_map]; omega), x4, _, _, lf, ld', es', vs', fs ++ [e.2], rfl, C1.add, ?_, by omega⟩
            rcases hcase with ⟨rfl, rfl, he2⟩ | ⟨r', w, rfl, rfl, he2⟩
            · rw [he2]
              exact .off (Z.done o0 hhang w0h hst.symm) (by have : ([] : List Str).length = 0 := rfl; omega)
            · rw [he2]
              refine .on (Z.pop o0) Lds ?_
              rw [List.length_append] at hlen ⊢
              have : [w].length = 1 := rfl
              omega
          · obtain ⟨yw, yb⟩ := Lds.sub here y (by rw [hn]; exact List.mem_append_right _ (List.mem_singleton.mpr rfl))
            have yl : y.length ≤ 6 := by have := (B.win.1 y yw).2; have := B.hi; omega
            rw [hn] at row ⊢
            rw [show decide ((0 : Int) < ((l ++ [y]).length : Int)) = true from decide_eq_true (by rw [List.length_append]; show (0 : Int) < ((l.length + 1 : Nat) : Int); omega)]
            have gL := DGet.k (k := kS y) C.hL
            rw [fkv_val yw] at gL
            refine iteT ⟨_, rfl, _, rfl, D, _, rfl, g, 1, rfl, rs here, _, -1, .str y, rfl, rfl, SqL.of row, by rw [List.map_append]; exact atI_lastV, _, rfl, _, rfl, L, _, rfl, gL, _, _, rfl, rfl, _, DPut.k (k := kS y) C.hL (sz_lt (by rw [fkv_len]; omega)), ?_⟩
            rw [fkv_put_in yw]
            have C1 := C.dec fun x => if x = y then lf y - 1 else lf x
            rw [show (fkv (fun z => V.int (((fun x => if x = y then lf y - 1 else lf x) z : Nat) : Int)) ws) = fkv (fun z => if z = y then V.int ((lf y : Int) - 1) else V.int (lf z : Int)) ws from fkv_congr fun z _ => by
              by_cases hz : z = y
              · rw [if_pos hz]
                show V.int ((if z = y then lf y - 1 else lf z : Nat) : Int) = _
                rw [if_pos hz]
                congr 1
                omega
              · rw [if_neg hz]
                show V.int ((if z = y then lf y - 1 else lf z : Nat) : Int) = _
                rw [if_neg hz]] at C1
            have sm := sum_less nd yw h0
            refine ⟨_, rfl, .inl ⟨rfl, _, SqL.of C1.hT⟩, _, rfl, 1, rfl, y, rfl, sz_of (by omega), ?_⟩
            rw [cut_end]
            refine ⟨_, rfl, sz_of (by show 2 ≤ 1000000; decide), fun q2 nq2 => ?_⟩
            have C2 := C1.new (o := .tup [.str (endS y), .str y]) nq2
            have C3 := C2.setT (C2.tw.snoc (a := (endS y, y)) (b := .ref q2) ⟨q2, rfl, upd_same⟩)
            refine ⟨TK, _, .ref q2, rfl, rfl, C2.hT, sz_lt (by omega), _, _, _, _, ld', _, _, fs, rfl, C3, ?_, ?_⟩
            · rw [← hes, ← stk_snoc]
              refine .on (Z.push nd yw yb h0) (Lds.less fun x => ?_) ?_
              · by_cases hx : x = y
                · rw [if_pos hx, hx]
                  omega
                · rw [if_neg hx]
                  exact Nat.le_refl _
              · rw [List.length_append]
                have : [y].length = 1 := rfl
                omega
            · rw [List.length_append, el]
              have : [(endS y, y)].length = 1 := rfl
              omega
end

section
variable {P : Program} {w : World} {K : PySem.W.Frag} {mg : Str → Option Value} {base : Heap}
theorem win_sl {n : Nat} {ws vs : List Str} (h : Win n ws) (s : vs.Sublist ws) : Win n vs := ⟨fun x hx => h.1 x (s.subset hx), List.Pairwise.sublist s h.2⟩
theorem Bk.held {n : Nat} {ws : List Str} {c : Str → Nat} (B : Bk n ws) (h : heldL ws c ≠ []) : Bk n (heldL ws c) := ⟨B.lo, B.hi, win_sl B.win (List.filter_sublist ..), h, Nat.le_trans (List.length_filter_le ..) B.few⟩
theorem len_counts {ws : List Str} (nd : ws.Nodup) : ∀ {r : List Str}, (∀ x ∈ r, x ∈ ws) → r.length = (ws.map (r.count ·)).sum
  | [], _ => by
    have : ∀ l : List Str, (l.map (([] : List Str).count ·)).sum = 0 := fun l => by
      induction l with
      | nil => rfl
      | cons x l ih => rw [List.map_cons, List.sum_cons, ih, List.count_nil]
    rw [this]
    rfl
  | x :: r, h => by
    have ih := len_counts nd (r := r) fun y hy => h y (List.mem_cons_of_mem _ hy)
    have h1 := sum_one nd (h x (List.mem_cons_self ..))
    have h2 := sum_add (c := (r.count ·)) (d := fun y => if y = x then 1 else 0) ws
    rw [h1, ← ih] at h2
    rw [List.length_cons, ← h2]
    congr 1
    refine List.map_congr_left fun y _ => ?_
    show r.count y + (if y = x then 1 else 0) = (x :: r).count y
    rw [List.count_cons]
    congr 1
    by_cases e : y = x
    · rw [if_pos e, if_pos (by rw [e]; exact beq_self_eq_true x)]
    · rw [if_neg e, if_neg (by intro q; exact e (eq_of_beq q).symm)]
theorem Eu.mem {ws r : List Str} {c : Str → Nat} (h : Eu ws c r) : ∀ x ∈ r, x ∈ ws := by
  obtain ⟨_, s, p⟩ := h.cl
  exact path_in p
theorem Eu.len {ws r : List Str} {c : Str → Nat} (nd : ws.Nodup) (h : Eu ws c r) : r.length = (ws.map c).sum := by
  rw [len_counts nd h.mem]
  congr 1
  exact List.map_congr_left fun x hx => h.all x hx
def Good (ws : List Str) (c : Str → Nat) : Prop := heldL ws c ≠ [] ∧ Bal ws c ∧ Hang (heldL ws c)
def RetRing (ws : List Str) (c : Str → Nat) (H : Hp) (Q : VK) : Prop := (Good ws c → (ws.map c).sum ≤ 100000 ∧ ∀ r H', Ex H H' → Eu ws c r → Q (.str (tx (txt r))) H') ∧ (¬ Good ws c → ∀ H', Ex H H' → Q .non H')
def sp_ring_with (K : PySem.W.Frag) : Sp := fun vs H Q _ => ∃ (v : V) (n : Nat) (b : Addr) (ws : List Str) (c : Str → Nat), vs = [v, .ref b] ∧ Dp K H v (bookD n ws) ∧ SqT K H b (cntV ws c) ∧ Bk n ws ∧ RetRing ws c H Q
theorem one1_hd {x : Str} {c : Nat} (h : (sg x)[0]? = some c) : (⟨#[c]⟩ : Str) = one1 (hdl x) := by
  unfold one1 hdl
  rw [List.headD_eq_head?_getD, List.head?_eq_getElem?, h]
  rfl
theorem ok_ring_with (T : Tx K mg) : Ok P w K mg base CX0 6 "ring_with" ["book", "counts"] (sp_ring_with K) := by
  refine T.d_ring_with.ok sc_ring_with (fun vs H Q E h => ?_) (fun f cdv A outer s H vs Q E hG hr h => ?_)
  · obtain ⟨v, n, b, ws, c, rfl, _⟩ := h
    rfl
  · obtain ⟨v, n, b, ws, c, rfl, hB, hc, B, q1, q2⟩ := h
    refine ⟨_, (pss_cons (ps_set (i := 2) sc_ring_with.nd rfl (Or.inl rfl) (pe_callTy (call_tupleK (K := K)) (by rfl) T.b_tuple (by decide +kernel) (pa_cons (pe_lc (own := [("window", 3), ("count", 4)]) (g := gTup K 2 (gCons (gName 3) (gCons (gName 4) gNil))) rfl sc_ring_with.nd (pi_zq (K := K) T.b_zip (pa_cons (pe_ix (ix_tupK (K := K)) (pv 0) pe_int (fun _ _ => rfl)) (pa_cons (pv 1) pa_nil))) (blkOk_by (own := [("window", 3), ("count", 4)]) (N := n_ring_with) (sc := defScope s_ring_with) (by decide +kernel)) (fun _ _ _ _ _ => (pg_tup rfl (pgs_cons (pg_name (i := 3) sc_ring_with.nd rfl (Or.inl rfl)) (pgs_cons (pg_name (i := 4) sc_ring_with.nd rfl (Or.inl rfl)) pgs_nil)))) (fun _ _ _ _ _ => pts_one (pt_cmpR op_gt (pv 4) pe_int (nomark _))) (fun _ _ _ _ _ => (pv 3))) pa_nil))) (pss_cons (ps_if (PW.pt (pw_or (pt_cmpR op_eq (pe_callB (call_lenK (K := K)) (by rfl) T.b_len PySem.boot_len (pa_cons (pv 2) pa_nil)) pe_int (nomark _)) (pw_or (pt_not (pt_val (pe_callO (ok_are_balanced T) hG (hr.mono (by decide)) (pa_cons (pv 0) (pa_cons (pv 1) pa_nil))))) (pw_or1 (pt_not (pt_val (pe_callO (ok_has_ring T) hG (hr.mono (by decide)) (pa_cons (pe_tup (pa_cons (pe_ix (ix_tupK (K := K)) (pv 0) pe_int (fun _ _ => rfl)) (pa_cons (pv 2) pa_nil))) pa_nil)))))))) (pss_one (ps_ret pe_non)) pss_nil) (pss_one (ps_ret (pe_joinK (K := K) pe_str (pe_lc (own := [("window", 3)]) (g := gName 3) (tt := tYes) rfl sc_ring_with.nd (pi_listK (K := K) (pe_callO (ok_closed_walk T) hG (hr.mono (by decide)) (pa_cons (pv 0) (pa_cons (pv 1) pa_nil)))) (blkOk_by (own := [("window", 3)]) (N := n_ring_with) (sc := defScope s_ring_with) (by decide +kernel)) (fun _ _ _ _ _ => pg_name (i := 3) sc_ring_with.nd rfl (Or.inl rfl)) (fun _ _ _ _ _ => pts_nil) (fun _ _ _ _ _ => (pe_ix ix_str (pv 3) pe_int (fun _ _ => rfl))))))))), ?_⟩
    obtain ⟨a, t, rfl, h1, h2⟩ := dp_book hB
    have few := B.few
    have nd : ws.Nodup := asc_nodup B.win.2
    have lm : (ws.map V.str).length = ws.length := List.length_map ..
    refine ⟨_, rfl, _, _, _, _, rfl, rfl, h1, atI_of (j := 1) rfl rfl, _, rfl, false, false, t, b, ws.map V.str, cntV ws c, rfl, h2, hc, fun D nD => ?_⟩
    have S := src_zq (b1 := false) (b2 := false) h2 hc
    rw [lm, cntV_len, Nat.min_self] at S
    refine lc_src (K := K) S (by omega) (fun i => decide (0 < c (atS ws i))) (fun i => .str (atS ws i)) (fun _ _ => rfl) nD (fun i x H2 Y Z hi e it hy hn => ?_) (fun H2 acc e hD ha => ?_)
    · obtain ⟨T', u, y, rfl, hT, hu, hy2⟩ := it
      obtain ⟨z, hz, rfl⟩ := str_at hu
      obtain ⟨z', hz', rfl⟩ := cntV_at hy2
      rw [hz] at hz'
      cases hz'
      rw [atS_of hz] at hy hn
      refine ⟨T', _, rfl, SqT.of hT, rfl, _, _, rfl, _, _, rfl, rfl, rfl, _, rfl, _, _, rfl, rfl, _, rfl, ?_⟩
      by_cases h0 : 0 < c z
      · rw [show decide ((0 : Int) < (c z : Int)) = true from decide_eq_true (by omega)]
        exact iteT ⟨_, rfl, hy (decide_eq_true h0) _ _ (Ex.refl _) (.str z)⟩
      · rw [show decide ((0 : Int) < (c z : Int)) = false from decide_eq_false (by omega)]
        exact iteF (hn (decide_eq_false h0) _ (Ex.refl _))
    rw [givenS ws (fun z => decide (0 < c z)) PyData.str] at ha
    have ha := strs_dpa ha
    subst ha
    refine ⟨D, _, rfl, .inl ⟨SqL.of hD, fun hT nh => ?_⟩⟩
    have hh : (upd H2 hT (.tup ((ws.filter fun z => decide (0 < c z)).map V.str))) hT = some (.tup ((heldL ws c).map V.str)) := upd_same
    have eh := e.trans (Ex.new (o := .tup ((ws.filter fun z => decide (0 < c z)).map V.str)) nh)
    generalize upd H2 hT (.tup ((ws.filter fun z => decide (0 < c z)).map V.str)) = H3 at hh eh
    refine ⟨_, rfl, hT, _, rfl, .inr (SqT.of hh), rfl, _, rfl, ?_⟩
    rw [List.length_map]
    by_cases hne : heldL ws c = []
    · rw [hne]
      rw [decide_eq_true (show V.int ((([] : List Str).length : Nat) : Int) = V.int 0 from rfl)]
      exact iteT (iteT (q2 (fun g => g.1 hne) _ eh))
    have hl0 : 0 < (heldL ws c).length := List.length_pos_iff.mpr hne
    rw [decide_eq_false (fun (z : V.int ((heldL ws c).length : Int) = V.int 0) => by have z := V.int.inj z; omega)]
    refine iteF ⟨_, rfl, _, rfl, .ref a, n, b, ws, c, rfl, dp_ex eh hB, ex_t eh hc, B.ws, fun u H4 e4 hu => ?_⟩
    obtain rfl := dp_bl hu
    refine ⟨_, rfl, ?_⟩
    have e04 := eh.trans e4
    by_cases hb : Bal ws c
    · rw [show balB ws c = true from balB_iff.mpr hb]
      refine iteF ?_
      refine ⟨_, rfl, _, _, _, _, rfl, rfl, ex_t e04 h1, atI_of (j := 0) rfl rfl, _, rfl, sz_of (by show 2 ≤ 1000000; decide), fun p np => ⟨.ref p, n, heldL ws c, rfl, bookDp (SqT.of upd_same) (SqT.of (Ex.new np _ _ (e4 _ _ hh))), B.held hne, fun u2 H5 e5 hu2 => ?_⟩⟩
      obtain rfl := dp_bl hu2
      refine ⟨_, rfl, ?_⟩
      have e05 := (e04.trans (Ex.new np)).trans e5
      by_cases hg : Hang (heldL ws c)
      · rw [show scB (heldL ws c) = true from scB_iff.mpr ⟨hne, hg⟩]
        obtain ⟨hs, q1⟩ := q1 ⟨hne, hb, hg⟩
        refine iteF ?_
        refine ⟨⟨_, rfl⟩, _, rfl, _, rfl, .ref a, n, b, ws, c, rfl, dp_ex e05 hB, ex_t e05 hc, B, hb, hne, hg, hs, fun r l H6 e6 hE hl => ?_⟩
        refine ⟨l, rfl, ⟨_, SqL.of hl⟩, fun D2 nD2 => ?_⟩
        have rl := hE.len nd
        have rm := hE.mem
        refine lcs_lst (SqL.of hl) (fun _ => true) (fun z => .str (one1 (hdl z))) nD2 (by omega) (fun _ _ => rfl) (fun z H7 Y Z hz e7 hy hn => ?_) (fun H7 acc e7 hD2 ha => ?_)
        · have zl := (B.win.1 z (rm z hz)).2
          have lo := B.lo
          have hi := B.hi
          have z0 : 0 < (sg z).length := by rw [← len_sg]; omega
          refine ⟨rfl, lc_yes ⟨_, rfl, z, 0, (sg z)[0], rfl, rfl, sz_of (by omega), atI_of (j := 0) rfl (List.getElem?_eq_getElem z0), ?_⟩⟩
          rw [one1_hd (List.getElem?_eq_getElem z0)]
          exact hy rfl _ _ (Ex.refl _) (.str _)
        · rw [filter_true] at ha
          have ea : acc = ((txt r).map one1).map V.str := strs_dpa (by
            unfold txt
            rw [List.map_map, List.map_map]
            exact ha)
          subst ea
          refine ⟨"", D2, (txt r).map one1, rfl, rfl, .inl (SqL.of hD2), ?_, ?_⟩
          · rw [lens_ones1, List.length_map]
            have tl : (txt r).length = r.length := List.length_map ..
            have : ("" : Str).length = 0 := by decide +kernel
            rw [this, tl]
            omega
          · rw [join_ones1]
            exact q1 r _ ((e05.trans e6).trans e7) hE
      · rw [show scB (heldL ws c) = false from scB_false fun h => hg h.2]
        exact iteT (q2 (fun g => hg g.2.2) _ e05)
    · rw [show balB ws c = false from Bool.eq_false_iff.mpr fun h => hb (balB_iff.mp h)]
      exact iteT (iteT (q2 (fun g => hb g.2.1) _ e04))
def sp_ring_of (K : PySem.W.Frag) : Sp := fun vs H Q _ => ∃ (v : V) (n : Nat) (b : Addr) (ws : List Str) (c : Str → Nat), vs = [v, .ref b] ∧ Dp K H v (bookD n ws) ∧ SqT K H b (cntV ws c) ∧ Bk n ws ∧ RetRing ws c H Q
theorem RetRing.ex {ws : List Str} {c : Str → Nat} {H H' : Hp} {Q : VK} (e : Ex H H') (h : RetRing ws c H Q) : RetRing ws c H' Q := ⟨fun g => ⟨(h.1 g).1, fun r H2 e2 hE => (h.1 g).2 r H2 (e.trans e2) hE⟩, fun g H2 e2 => h.2 g H2 (e.trans e2)⟩
theorem ok_ring_of (T : Tx K mg) : Ok P w K mg base CX0 7 "ring_of" ["book", "counts"] (sp_ring_of K) := by
  refine T.d_ring_of.ok sc_ring_of (fun vs H Q E h => ?_) (fun f cdv A outer s H vs Q E hG hr h => ?_)
  · obtain ⟨v, n, b, ws, c, rfl, _⟩ := h
    rfl
  · obtain ⟨v, n, b, ws, c, rfl, hB, hc, B, q⟩ := h
    refine ⟨_, (pss_cons (ps_expr (pe_callO (ok_need_book T) hG (hr.mono (by decide)) (pa_cons (pv 0) pa_nil))) (pss_cons (ps_expr (pe_callO (ok_need_counts T) hG (hr.mono (by decide)) (pa_cons (pv 0) (pa_cons (pv 1) pa_nil)))) (pss_one (ps_ret (pe_callO (ok_ring_with T) hG (hr.mono (by decide)) (pa_cons (pv 0) (pa_cons (pv 1) pa_nil))))))), ?_⟩
    exact ⟨_, rfl, v, n, ws, rfl, hB, B, fun H1 e1 => ⟨_, rfl, _, rfl, v, n, b, ws, c, rfl, dp_ex e1 hB, ex_t e1 hc, B.ws, fun H2 e2 => ⟨_, rfl, _, rfl, v, n, b, ws, c, rfl, dp_ex (e1.trans e2) hB, ex_t (e1.trans e2) hc, B, q.ex (e1.trans e2)⟩⟩⟩
end

/-! ### what the law draws -/
section
variable {P : Program} {w : World} {K : PySem.W.Frag} {mg : Str → Option Value} {base : Heap}
def sp_law_well (K : PySem.W.Frag) : Sp := fun vs H Q _ => ∃ (a : Addr) (ns : List Int) (k : Nat), vs = [.ref a, .int k] ∧ SqL K H a (ns.map V.int) ∧ ns.length ≤ 1000 ∧ k ≤ 1000 ∧ ∀ w G H', Ex H G → Wt w 0 G H' → Q (.ref w) H'
theorem ok_law_well (T : Tx K mg) : Ok P w K mg base CX0 1 "_law_well" ["script", "k"] (sp_law_well K) := by
  refine T.d_law_well.ok sc_law_well (fun vs H Q E h => ?_) (fun f cdv A outer s H vs Q E hG hr h => ?_)
  · obtain ⟨a, ns, k, rfl, _⟩ := h
    rfl
  · obtain ⟨a, ns, k, rfl, hS, hl, hk, q⟩ := h
    refine ⟨_, (pss_cons (ps_set (i := 3) sc_law_well.nd rfl (Or.inl rfl) (pe_callB (cr_sumK (K := K) rfl) (by rfl) T.b_sum (by decide +kernel) (pa_cons (pe_lc (own := [("cell", 2)]) (g := gName 2) (tt := tYes) rfl sc_law_well.nd (pi_listK (K := K) (pv 0)) (blkOk_by (own := [("cell", 2)]) (N := n_law_well) (sc := defScope s_law_well) (by decide +kernel)) (fun _ _ _ _ _ => pg_name (i := 2) sc_law_well.nd rfl (Or.inl rfl)) (fun _ _ _ _ _ => pts_nil) (fun _ _ _ _ _ => (pe_op op_modN (pe_callTy call_int1 (by rfl) T.b_int (by decide +kernel) (pa_cons (pv 2) pa_nil)) (pe_op op_add (pe_op op_pow pe_int pe_int) pe_int)))) pa_nil))) (pss_cons (ps_set (i := 2) sc_law_well.nd rfl (Or.inl rfl) (pe_ifExp (pt_cmpR op_lt (pv 1) (pe_callB (call_lenK (K := K)) (by rfl) T.b_len PySem.boot_len (pa_cons (pv 0) pa_nil)) (nomark _)) (pe_ix (ix_listK (K := K)) (pv 0) (pv 1) (fun _ _ => rfl)) (pe_op op_add (pe_op op_mul pe_int (pv 1)) pe_int))) (pss_one (ps_ret (pe_lst (pa_cons (pe_callB (call_max2 rfl) (by rfl) T.b_max (by decide +kernel) (pa_cons pe_int (pa_cons (pe_op op_sub (pv 2) (pe_op op_pow pe_int pe_int)) pa_nil))) (pa_cons (pe_op op_modN (pe_callTy call_int1 (by rfl) T.b_int (by decide +kernel) (pa_cons (pe_op op_add (pe_op op_add (pe_op op_mul (pe_callB call_abs (by rfl) T.b_abs (by decide +kernel) (pa_cons (pv 2) pa_nil)) pe_int) (pe_op op_mul (pv 3) pe_int)) (pe_op op_mul pe_int (pv 1))) pa_nil)) (pe_op op_add (pe_op op_pow pe_int pe_int) pe_int)) (pa_cons pe_int pa_nil)))))))), ?_⟩
    have lmap : (ns.map V.int).length = ns.length := List.length_map ..
    have m25 : (10 : Int) ^ (25 : Int).toNat + 13 ≠ 0 := by decide
    have m31 : (10 : Int) ^ (31 : Int).toNat + 33 ≠ 0 := by decide
    have ten : CPow 10 25 ∧ CPow 10 18 ∧ CPow 10 31 := by refine ⟨⟨?_, ?_, ?_⟩, ⟨?_, ?_, ?_⟩, ⟨?_, ?_, ?_⟩⟩ <;> decide
    have fin : ∀ (G : Hp) (g x : Int) (z : Addr), Ex H G → G z = none → Q (.ref z) (upd G z (.lst [.int g, .int (x.fmod ((10 : Int) ^ (31 : Int).toNat + 33)), .int 0])) := fun G g x z e nz => q z G _ e ⟨Ex.new nz, nz, g, _, 0, ⟨Nat.le_refl _, Int.fmod_nonneg_of_pos _ (by decide), Int.lt_trans (Int.fmod_lt_of_pos _ (by decide)) (by decide)⟩, upd_same⟩
    refine ⟨_, rfl, a, rfl, ⟨_, hS⟩, fun D nD => ?_⟩
    refine lc_lst hS (fun _ => true) (fun i => .int ((ns.getD i 0).fmod ((10 : Int) ^ (25 : Int).toNat + 13))) nD (by omega) (fun _ _ => rfl) (fun i x H2 Y Z hi e it hy hn => ?_) (fun H2 acc e hD ha => ?_)
    · rw [lmap] at hi
      rw [get_map hi] at it
      cases it
      have eg : ns.getD i 0 = ns[i] := by rw [List.getD_eq_getElem?_getD, List.getElem?_eq_getElem hi]; rfl
      have hy := fun (y : V) (H3 : Hp) (e3 : Ex H2 H3) (d : Dp K H3 y (.int (ns[i].fmod ((10 : Int) ^ (25 : Int).toNat + 13)))) => hy rfl y H3 e3 (by show Dp K H3 y (.int ((ns.getD i 0).fmod _)); rw [eg]; exact d)
      refine ⟨rfl, lc_yes ?_⟩
      first
        | exact ⟨_, rfl, .inl ⟨_, rfl, 10, 25, rfl, rfl, ten.1, _, 13, rfl, rfl, _, _, rfl, rfl, m25, hy _ _ (Ex.refl _) (.int _)⟩⟩
        | exact ⟨_, rfl, _, rfl, 10, 25, rfl, rfl, ten.1, _, 13, rfl, rfl, _, _, rfl, rfl, m25, hy _ _ (Ex.refl _) (.int _)⟩
    · rw [givenD_all] at ha
      have ea : acc = ((List.range (ns.map V.int).length).map fun i => (ns.getD i 0).fmod ((10 : Int) ^ (25 : Int).toNat + 13)).map V.int := ints_dpa (by rw [List.map_map]; exact ha)
      subst ea
      refine ⟨D, _, rfl, SqL.of hD, ?_⟩
      generalize ((List.range (ns.map V.int).length).map fun i => (ns.getD i 0).fmod ((10 : Int) ^ (25 : Int).toNat + 13)).sum = bl
      have hS2 := ex_l e hS
      refine ⟨_, rfl, _, rfl, a, _, rfl, .inl hS2, _, _, rfl, rfl, _, rfl, ?_⟩
      rw [lmap]
      by_cases hkk : (k : Int) < (ns.length : Int)
      · rw [decide_eq_true hkk]
        have hkn : k < ns.length := by omega
        refine iteT ⟨_, rfl, _, rfl, a, _, _, _, rfl, rfl, hS2, atI_of (j := k) rfl (get_map hkn), ?_⟩
        exact ⟨_, rfl, 10, 18, rfl, rfl, ten.2.1, _, _, rfl, rfl, _, _, rfl, _, rfl, _, rfl, _, _, rfl, rfl, .inr ⟨by decide, by decide⟩, _, rfl, _, _, rfl, rfl, .inr ⟨by decide, by decide⟩, _, _, rfl, rfl, _, rfl, _, _, rfl, rfl, .inl ⟨by decide, by decide⟩, _, _, rfl, rfl, .inl ⟨_, rfl, 10, 31, rfl, rfl, ten.2.2, _, 33, rfl, rfl, _, _, rfl, rfl, m31, sz_of (by show 3 ≤ 1000000; decide), fun z nz => fin _ _ _ z e nz⟩⟩
      · rw [decide_eq_false hkk]
        refine iteF ⟨_, rfl, _, _, rfl, rfl, .inl ⟨by decide, by decide⟩, _, _, rfl, rfl, ?_⟩
        exact ⟨_, rfl, 10, 18, rfl, rfl, ten.2.1, _, _, rfl, rfl, _, _, rfl, _, rfl, _, rfl, _, _, rfl, rfl, .inr ⟨by decide, by decide⟩, _, rfl, _, _, rfl, rfl, .inr ⟨by decide, by decide⟩, _, _, rfl, rfl, _, rfl, _, _, rfl, rfl, .inl ⟨by decide, by decide⟩, _, _, rfl, rfl, .inl ⟨_, rfl, 10, 31, rfl, rfl, ten.2.2, _, 33, rfl, rfl, _, _, rfl, rfl, m31, sz_of (by show 3 ≤ 1000000; decide), fun z nz => fin _ _ _ z e nz⟩⟩
def sp_law_take : Sp := fun vs H Q _ => ∃ (w : Addr) (n c : Nat) (G : Hp), vs = [.ref w, .int n] ∧ 1 ≤ n ∧ n ≤ 100000 ∧ c ≤ 1000000 ∧ Wt w c G H ∧ ∀ (i : Nat) H', i < n → Wt w (c + 1) G H' → Q (.int i) H'
theorem nat_mod {i n : Int} (h : 1 ≤ n) : ∃ j : Nat, i.fmod n = (j : Int) ∧ (j : Int) < n := by
  have h1 : 0 ≤ i.fmod n := Int.fmod_nonneg_of_pos _ (by omega)
  have h2 : i.fmod n < n := Int.fmod_lt_of_pos _ (by omega)
  exact ⟨(i.fmod n).toNat, by omega, by omega⟩
theorem q_mod {n : Nat} {H : Hp} {Q : VK} (hn : 1 ≤ n) (q : ∀ j : Nat, j < n → Q (.int j) H) (z : Int) : Q (.int (z.fmod n)) H := by
  obtain ⟨j, hj, hj2⟩ := nat_mod (i := z) (n := n) (by omega)
  rw [hj]
  exact q j (by omega)
theorem abs_add {i j : Int} {a b : Nat} (hi : i.natAbs < 2 ^ a) (hj : j.natAbs < 2 ^ a) (h : a + 1 = b) : (i + j).natAbs < 2 ^ b := by
  subst h
  rw [Nat.pow_succ]
  omega
theorem ok_law_take (T : Tx K mg) : Ok P w K mg base CX0 1 "_law_take" ["well", "size"] sp_law_take := by
  refine T.d_law_take.ok sc_law_take (fun vs H Q E h => ?_) (fun f cdv A outer s H vs Q E hG hr h => ?_)
  · obtain ⟨w, n, c, G, rfl, _⟩ := h
    rfl
  · obtain ⟨w, n, c, G, rfl, hn, hn2, hc, W, q⟩ := h
    refine ⟨_, (pss_cons (ps_if (pt_cmpR op_gt (pe_ix (ix_listK (K := K)) (pv 0) pe_int (fun _ _ => rfl)) pe_int (nomark _)) (pss_cons (ps_set (i := 2) sc_law_take.nd rfl (Or.inl rfl) (pe_op op_modN (pe_callTy call_int1 (by rfl) T.b_int (by decide +kernel) (pa_cons (pe_ix (ix_listK (K := K)) (pv 0) pe_int (fun _ _ => rfl)) pa_nil)) (pv 1))) (pss_cons (ps_asg (pe_op op_fdivN (pe_ix (ix_listK (K := K)) (pv 0) pe_int (fun _ _ => rfl)) (pv 1)) (pg_sub (pv 0) pe_int set_list)) (pss_one (ps_ret (pv 2))))) pss_nil) (pss_cons (ps_asg (pe_op op_add (pe_ix (ix_listK (K := K)) (pv 0) pe_int (fun _ _ => rfl)) pe_int) (pg_sub (pv 0) pe_int set_list)) (pss_cons (ps_set (i := 3) sc_law_take.nd rfl (Or.inl rfl) (pe_op op_modN (pe_callTy call_int1 (by rfl) T.b_int (by decide +kernel) (pa_cons (pe_op op_mulW (pe_op op_add (pe_ix (ix_listK (K := K)) (pv 0) pe_int (fun _ _ => rfl)) (pe_op op_mulW pe_int (pe_ix (ix_listK (K := K)) (pv 0) pe_int (fun _ _ => rfl)))) (pe_op op_add (pe_op op_add (pe_ix (ix_listK (K := K)) (pv 0) pe_int (fun _ _ => rfl)) (pe_op op_mulW (pe_op op_mul pe_int (pe_ix (ix_listK (K := K)) (pv 0) pe_int (fun _ _ => rfl))) (pe_ix (ix_listK (K := K)) (pv 0) pe_int (fun _ _ => rfl)))) pe_int)) pa_nil)) (pe_op op_add (pe_op op_pow pe_int pe_int) pe_int))) (pss_cons (ps_set (i := 3) sc_law_take.nd rfl (Or.inl rfl) (pe_op op_modN (pe_callTy call_int1 (by rfl) T.b_int (by decide +kernel) (pa_cons (pe_op op_mulW (pv 3) (pe_op op_add (pv 3) pe_int)) pa_nil)) (pe_op op_add (pe_op op_pow pe_int pe_int) pe_int))) (pss_one (ps_ret (pe_op op_modN (pe_callTy call_int1 (by rfl) T.b_int (by decide +kernel) (pa_cons (pe_op op_fdivN (pv 3) pe_int) pa_nil)) (pv 1)))))))), ?_⟩
    obtain ⟨g, m, k, hk, hw⟩ := W.h
    have n0 : (n : Int) ≠ 0 := by omega
    have ten : CPow 10 34 ∧ CPow 10 33 := by refine ⟨⟨?_, ?_, ?_⟩, ⟨?_, ?_, ?_⟩⟩ <;> decide
    have m34 : (10 : Int) ^ (34 : Int).toNat + 193 ≠ 0 := by decide
    have m33 : (10 : Int) ^ (33 : Int).toNat + 49 ≠ 0 := by decide
    have hS : SqL K H w [.int g, .int m, .int k] := SqL.of hw
    refine ⟨_, rfl, w, _, 0, _, rfl, rfl, hS, atI_of (j := 0) rfl rfl, _, _, rfl, rfl, _, rfl, ?_⟩
    by_cases hg : g > 0
    · rw [decide_eq_true hg]
      refine iteT ⟨_, rfl, w, _, 0, _, rfl, rfl, hS, atI_of (j := 0) rfl rfl, .inl ⟨g, rfl, _, rfl, g, n, rfl, rfl, n0, ?_⟩⟩
      refine ⟨_, rfl, w, _, 0, _, rfl, rfl, hS, atI_of (j := 0) rfl rfl, _, rfl, g, n, rfl, rfl, ⟨n0, by omega⟩, _, rfl, w, _, 0, 0, rfl, rfl, hw, rfl, _, rfl, ?_⟩
      exact q_mod hn (fun j hj => q j _ hj (W.set (by omega) hk.2.1 hk.2.2)) g
    · rw [decide_eq_false hg]
      refine iteF ?_
      have hS1 : SqL K (upd H w (.lst [.int g, .int m, .int ((k : Int) + 1)])) w [.int g, .int m, .int ((k : Int) + 1)] := SqL.of upd_same
      have W1 : Wt w (c + 1) G (upd H w (.lst [.int g, .int m, .int ((k : Int) + 1)])) := W.set (k := k + 1) (by omega) hk.2.1 hk.2.2
      have hm : m.natAbs < 2 ^ 128 := by
        have h2 := hk.2.2
        have h1 := hk.2.1
        omega
      have hk1 : ((k : Int) + 1).natAbs < 2 ^ 20 := by omega
      have c1 : (1597334677 : Int).natAbs < 2 ^ 31 := by decide
      have c2 : ((48271 : Int) * ((k : Int) + 1)).natAbs < 2 ^ 36 := wide_lt (a := 16) (b := 20) (by decide) hk1
      have b1 : (1597334677 * ((k : Int) + 1)).natAbs < 2 ^ 51 := wide_lt (a := 31) (b := 20) c1 hk1
      have b2 : ((48271 : Int) * ((k : Int) + 1) * ((k : Int) + 1)).natAbs < 2 ^ 56 := wide_lt (a := 36) (b := 20) c2 hk1
      have p1 : (2 : Nat) ^ 51 ≤ 2 ^ 128 := Nat.pow_le_pow_right (by decide) (by decide)
      have p2 : (2 : Nat) ^ 56 ≤ 2 ^ 128 := Nat.pow_le_pow_right (by decide) (by decide)
      have d1 : (m + 1597334677 * ((k : Int) + 1)).natAbs < 2 ^ 129 := abs_add hm (Nat.lt_of_lt_of_le b1 p1) rfl
      have d2 : (m + 48271 * ((k : Int) + 1) * ((k : Int) + 1)).natAbs < 2 ^ 129 := abs_add hm (Nat.lt_of_lt_of_le b2 p2) rfl
      have d3 : (m + 48271 * ((k : Int) + 1) * ((k : Int) + 1) + 7).natAbs < 2 ^ 130 := abs_add d2 (by decide) rfl
      refine ⟨_, rfl, w, _, 2, _, rfl, rfl, hS, atI_of (j := 2) rfl rfl, k, 1, rfl, rfl, _, rfl, w, _, 2, 2, rfl, rfl, hw, rfl, ?_⟩
      refine ⟨_, rfl, w, _, 1, _, rfl, rfl, hS1, atI_of (j := 1) rfl rfl, _, rfl, w, _, 2, _, rfl, rfl, hS1, atI_of (j := 2) rfl rfl, 1597334677, (k : Int) + 1, rfl, rfl, wide_mul c1 hk1 (by decide) (by decide) (by decide), _, _, rfl, rfl, ?_⟩
      refine ⟨_, rfl, w, _, 1, _, rfl, rfl, hS1, atI_of (j := 1) rfl rfl, _, rfl, w, _, 2, _, rfl, rfl, hS1, atI_of (j := 2) rfl rfl, 48271, (k : Int) + 1, rfl, rfl, ?_, _, rfl, w, _, 2, _, rfl, rfl, hS1, atI_of (j := 2) rfl rfl, _, (k : Int) + 1, rfl, rfl, wide_mul c2 hk1 (by decide) (by decide) (by decide), _, _, rfl, rfl, _, 7, rfl, rfl, _, _, rfl, rfl, wide_mul d1 d3 (by decide) (by decide) (by decide), .inl ⟨_, rfl, 10, 34, rfl, rfl, ten.1, _, 193, rfl, rfl, _, _, rfl, rfl, m34, ?_⟩⟩
      · exact .inl ⟨by decide, by decide⟩
      generalize (m + 1597334677 * ((k : Int) + 1)) * (m + 48271 * ((k : Int) + 1) * ((k : Int) + 1) + 7) = pr
      have hx0 := Int.fmod_nonneg_of_pos pr (show (0 : Int) < 10 ^ (34 : Int).toNat + 193 by decide)
      have hx1 := Int.fmod_lt_of_pos pr (show (0 : Int) < 10 ^ (34 : Int).toNat + 193 by decide)
      have hx : (pr.fmod (10 ^ (34 : Int).toNat + 193)).natAbs < 2 ^ 128 := by
        have e : (10 : Int) ^ (34 : Int).toNat + 193 < 2 ^ 128 := by decide
        omega
      have hx2 : (pr.fmod (10 ^ (34 : Int).toNat + 193) + 69621).natAbs < 2 ^ 129 := abs_add hx (by decide) rfl
      refine ⟨_, rfl, _, rfl, _, 69621, rfl, rfl, _, _, rfl, rfl, wide_mul hx hx2 (by decide) (by decide) (by decide), .inl ⟨_, rfl, 10, 33, rfl, rfl, ten.2, _, 49, rfl, rfl, _, _, rfl, rfl, m33, ?_⟩⟩
      refine ⟨_, rfl, _, 4093, rfl, rfl, ⟨by decide, by decide⟩, .inl ⟨_, rfl, _, rfl, _, n, rfl, rfl, n0, ?_⟩⟩
      exact q_mod hn (fun j hj => q j _ hj W1) _
end

section
variable {P : Program} {w : World} {K : PySem.W.Frag} {mg : Str → Option Value} {base : Heap}
def sp_law_pick (K : PySem.W.Frag) : Sp := fun vs H Q _ => ∃ (w : Addr) (x : V) (n c : Nat) (G : Hp), vs = [.ref w, x] ∧ 1 ≤ n ∧ n ≤ 100000 ∧ c ≤ 1000000 ∧ Wt w c G H ∧
  ((∃ z : Str, x = .str z ∧ z.length = n ∧ ∀ c0 H', c0 ∈ sg z → Wt w (c + 1) G H' → Q (.str (tx [c0])) H') ∨ (∃ a xs, x = .ref a ∧ Sq K G a xs ∧ xs.length = n ∧ ∀ v H', v ∈ xs → Wt w (c + 1) G H' → Q v H'))
theorem ok_law_pick (T : Tx K mg) : Ok P w K mg base CX0 2 "_law_pick" ["well", "things"] (sp_law_pick K) := by
  refine T.d_law_pick.ok sc_law_pick (fun vs H Q E h => ?_) (fun f cdv A outer s H vs Q E hG hr h => ?_)
  · obtain ⟨w, x, n, c, G, rfl, _⟩ := h
    rfl
  · obtain ⟨w, x, n, c, G, rfl, hn, hn2, hc, W, q⟩ := h
    refine ⟨_, (pss_one (ps_ret (pe_ix (ix_seqK (K := K)) (pv 1) (pe_callO (ok_law_take T) hG (hr.mono (by decide)) (pa_cons (pv 0) (pa_cons (pe_callB (call_lenAK (K := K)) (by rfl) T.b_len PySem.boot_len (pa_cons (pv 1) pa_nil)) pa_nil))) (fun _ _ => rfl)))), ?_⟩
    refine ⟨_, rfl, _, rfl, _, rfl, x, n, rfl, ?_, w, n, c, G, rfl, hn, hn2, hc, W, fun i H' hi W' => ?_⟩
    · rcases q with ⟨z, rfl, hz, _⟩ | ⟨a, xs, rfl, hS, hl, _⟩
      · exact ⟨by rw [hz]; exact sz_of (by omega), hz.symm⟩
      · rcases ex_sq W.e hS with h | h
        · exact .inl ⟨xs, h, hl.symm⟩
        · exact .inr ⟨xs, h, hl.symm⟩
    · rcases q with ⟨z, rfl, hz, q⟩ | ⟨a, xs, rfl, hS, hl, q⟩
      · have hi2 : i < (sg z).length := by rw [← len_sg, hz]; exact hi
        exact .inr (.inr ⟨z, i, (sg z)[i], rfl, rfl, by rw [hz]; exact sz_of (by omega), atI_of rfl (List.getElem?_eq_getElem hi2), q _ _ (List.getElem_mem hi2) W'⟩)
      · have hi2 : i < xs.length := by omega
        have hat : atI xs (i : Int) = some xs[i] := atI_of rfl (List.getElem?_eq_getElem hi2)
        rcases ex_sq W'.e hS with h | h
        · exact .inl ⟨a, xs, i, xs[i], rfl, rfl, h, hat, q _ _ (List.getElem_mem hi2) W'⟩
        · exact .inr (.inl ⟨a, xs, i, xs[i], rfl, rfl, h, hat, q _ _ (List.getElem_mem hi2) W'⟩)
def sp_law_read (K : PySem.W.Frag) : Sp := fun vs H Q _ => ∃ (n : Nat) (r : Str), vs = [.int n, .str r] ∧ 1 ≤ r.length ∧ r.length ≤ 10000 ∧ 1 ≤ n ∧ n ≤ 10 ∧ NewL (rnd n r) H Q
theorem ok_law_read (T : Tx K mg) : Ok P w K mg base CX0 1 "_law_read" ["size", "ring"] (sp_law_read K) := by
  refine T.d_law_read.ok sc_law_read (fun vs H Q E h => ?_) (fun f cdv A outer s H vs Q E hG hr h => ?_)
  · obtain ⟨n, r, rfl, _⟩ := h
    rfl
  · obtain ⟨n, r, rfl, h1, h2, hn, hn6, q⟩ := h
    refine ⟨_, (pss_cons (ps_set (i := 2) sc_law_read.nd rfl (Or.inr rfl) (pe_op op_rep_str2 (pv 1) (pe_op op_add (pv 0) pe_int))) (pss_one (ps_ret (pe_lc (own := [("at", 3)]) (g := gName 3) (tt := tYes) rfl sc_law_read.nd (pi_range1 (by rfl) T.b_range (pa_cons (pe_callB call_len_str (by rfl) T.b_len PySem.boot_len (pa_cons (pv 1) pa_nil)) pa_nil)) (blkOk_by (own := [("at", 3)]) (N := n_law_read) (sc := defScope s_law_read) (by decide +kernel)) (fun _ _ _ _ _ => pg_name (i := 3) sc_law_read.nd rfl (Or.inl rfl)) (fun _ _ _ _ _ => pts_nil) (fun _ _ _ _ _ => (pe_slice sl_str (pv 2) (po_some (pv 3)) (po_some (pe_op op_add (pv 3) (pv 0))))))))), ?_⟩
    have big : 1000000 ≤ sizeLine := by decide
    have hmr : (n + 1) * r.length ≤ 11 * r.length := Nat.mul_le_mul (by omega) (Nat.le_refl _)
    have hm1 : r.length + n ≤ (n + 1) * r.length := by
      have := Nat.mul_le_mul (Nat.le_refl n) h1
      rw [Nat.add_mul, Nat.one_mul]
      omega
    refine ⟨_, rfl, _, rfl, _, _, rfl, rfl, r, _, rfl, rfl, by omega, by omega, h1, ?_, ?_⟩
    · rw [show ((n : Int) + 1).toNat = n + 1 by omega, Nat.mul_comm]
      omega
    rw [show ((n : Int) + 1).toNat = n + 1 by omega]
    have hL : sg (tx (rep (n + 1) (sg r))) = rep (n + 1) (sg r) := rfl
    have lL : (tx (rep (n + 1) (sg r))).length = (n + 1) * r.length := rep_len _ _
    generalize tx (rep (n + 1) (sg r)) = L at hL lL
    refine ⟨_, rfl, r, rfl, by omega, _, rfl, by omega, by omega, fun D np => ?_⟩
    refine lc_rng K (fun _ => true) (fun i => .str (tx (cyc (sg r) i n))) np (by omega) (fun _ _ => rfl) (fun i x H2 Y Z hi e it hy _ => ?_) (fun H2 acc e hp hd => ?_)
    · subst it
      have hi2 : i < r.length := by omega
      refine ⟨rfl, lc_yes ?_⟩
      have cut : cutS L (some (i : Int)) (some ((i + n : Nat) : Int)) = tx (cyc (sg r) i n) := by
        rw [cut_at _ _ _ (by omega), hL, Nat.min_eq_left (by omega), show i + n - i = n by omega, rep_cut (by show i + n ≤ (n + 1) * r.length; omega)]
      have z : rSlS (.str L) (some (0 + (i : Int))) (some (0 + (i : Int) + (n : Int))) H2 Y := by
        refine ⟨L, rfl, by omega, ?_⟩
        rw [show (0 : Int) + (i : Int) + (n : Int) = ((i + n : Nat) : Int) by omega, show (0 : Int) + (i : Int) = (i : Int) by omega, cut]
        exact hy rfl _ _ (Ex.refl _) (.str _)
      exact ⟨_, rfl, _, rfl, _, rfl, _, rfl, _, rfl, _, _, rfl, rfl, _, rfl, z⟩
    · rw [givenD_all] at hd
      rw [Int.toNat_natCast] at hd
      have hs : acc = (rnd n r).map V.str := strs_dpa (by
        unfold rnd
        rw [List.map_map]
        exact hd)
      subst hs
      exact q _ _ e np hp
/-- a drawn ring text -/
def Ring (m : Nat) (r : Str) : Prop := Word r ∧ 1 ≤ r.length ∧ r.length ≤ m
theorem word_lit (z : Str) (h : (sg z).all (fun c => decide (97 ≤ c ∧ c ≤ 122)) = true) : Word z := wordB_word h
theorem rnd_stp {n m : Nat} {r : Str} (h : Ring m r) : ∀ x ∈ rnd n r, Word x ∧ x.length = n := fun x hx => by
  obtain ⟨h1, h2⟩ := rnd_mem hx
  exact ⟨fun c hc => h.1 c (h2 c hc), h1⟩
theorem int_mem {v : V} {is : List Int} (h : v ∈ is.map V.int) : ∃ i ∈ is, v = .int i := by
  obtain ⟨i, hi, rfl⟩ := List.mem_map.mp h
  exact ⟨i, hi, rfl⟩
theorem str_mem {v : V} {is : List Str} (h : v ∈ is.map V.str) : ∃ i ∈ is, v = .str i := by
  obtain ⟨i, hi, rfl⟩ := List.mem_map.mp h
  exact ⟨i, hi, rfl⟩
def sp_law_ring (K : PySem.W.Frag) : Sp := fun vs H Q _ => ∃ (w : Addr) (most c : Nat) (G : Hp), vs = [.ref w, .int most] ∧ 1 ≤ most ∧ most ≤ 100 ∧ c ≤ 90000 ∧ Wt w c G H ∧ ∀ r G' H', Ring most r → (∃ z : Str, z.length ≤ 4 ∧ ∀ c0 ∈ sg r, c0 ∈ sg z) → Ex G G' → Wt w (c + 200) G' H' → Q (.str r) H'
theorem ok_law_ring (T : Tx K mg) : Ok P w K mg base CX0 3 "_law_ring" ["well", "most"] (sp_law_ring K) := by
  refine T.d_law_ring.ok sc_law_ring (fun vs H Q E h => ?_) (fun f cdv A outer s H vs Q E hG hr h => ?_)
  · obtain ⟨w, most, c, G, rfl, _⟩ := h
    rfl
  · obtain ⟨w, most, c, G, rfl, hm, hm2, hc, W, q⟩ := h
    refine ⟨_, (pss_cons (ps_set (i := 2) sc_law_ring.nd rfl (Or.inr rfl) (pe_callO (ok_law_pick T) hG (hr.mono (by decide)) (pa_cons (pv 0) (pa_cons (pe_lst (pa_cons pe_str (pa_cons pe_str (pa_cons pe_str (pa_cons pe_str (pa_cons pe_str (pa_cons pe_str pa_nil))))))) pa_nil)))) (pss_one (ps_ret (pe_joinK (K := K) pe_str (pe_lc (own := [("turn", 3)]) (g := gName 3) (tt := tYes) rfl sc_law_ring.nd (pi_range1 (by rfl) T.b_range (pa_cons (pe_op op_add pe_int (pe_callO (ok_law_take T) hG (hr.mono (by decide)) (pa_cons (pv 0) (pa_cons (pv 1) pa_nil)))) pa_nil)) (blkOk_by (own := [("turn", 3)]) (N := n_law_ring) (sc := defScope s_law_ring) (by decide +kernel)) (fun _ _ _ _ _ => pg_name (i := 3) sc_law_ring.nd rfl (Or.inl rfl)) (fun _ _ _ _ _ => pts_nil) (fun _ _ _ _ _ => (pe_callO (ok_law_pick T) hG (hr.mono (by decide)) (pa_cons (pv 0) (pa_cons (pv 2) pa_nil))))))))), ?_⟩
    have s6 : 6 ≤ sizeLine := sz_of (by omega)
    refine ⟨_, rfl, s6, fun p np => ⟨w, .ref p, 6, c, upd G p _, rfl, by omega, by omega, by omega, W.new np, .inr ⟨p, _, rfl, .inl (SqL.of upd_same), rfl, fun v H2 hv W2 => ?_⟩⟩⟩
    obtain ⟨z, hz, rfl⟩ := str_mem (is := ["a", "ab", "az", "abc", "bxy", "acgt"]) hv
    have hL : Word z ∧ 1 ≤ z.length ∧ z.length ≤ 4 := by
      simp only [List.mem_cons, List.mem_nil_iff, or_false] at hz
      rcases hz with rfl | rfl | rfl | rfl | rfl | rfl <;> exact ⟨word_lit _ (by decide +kernel), by decide +kernel, by decide +kernel⟩
    have eG : Ex G (upd G p (.lst [.str "a", .str "ab", .str "az", .str "abc", .str "bxy", .str "acgt"])) := Ex.new (W.free np)
    have W2' : Wt w (c + 1) (upd G p (.lst [.str "a", .str "ab", .str "az", .str "abc", .str "bxy", .str "acgt"])) H2 := W2
    clear W2
    generalize upd G p (.lst [.str "a", .str "ab", .str "az", .str "abc", .str "bxy", .str "acgt"]) = G2 at W2' eG
    refine ⟨⟨_, rfl⟩, _, rfl, _, rfl, w, most, _, G2, rfl, hm, by omega, by omega, W2', fun i3 H7 hi3 W7 => ⟨1, i3, rfl, rfl, _, rfl, by omega, by omega, fun D np7 => ?_⟩⟩
    have ei3 : ((1 : Int) + (i3 : Int)).toNat = 1 + i3 := by omega
    rw [ei3]
    refine lc_letters (K := K) (z := z) W7 (by omega) (by omega) np7 (fun i4 x c4 G8 H8 Y e8 hc4 W8 hy => ?_) (fun G9 H9 l e9 W9 hl hlm hD => ?_)
    · exact ⟨rfl, lc_yes ⟨_, rfl, _, rfl, w, .str z, z.length, c4, G8, rfl, hL.2.1, by omega, hc4, W8, .inl ⟨z, rfl, rfl, hy⟩⟩⟩
    · refine ⟨"", D, l.map one1, rfl, rfl, .inl (SqL.of (W9.e _ _ hD)), ?_, ?_⟩
      · rw [lens_ones1, hl]
        have : ("" : Str).length = 0 := by decide +kernel
        rw [this]
        omega
      rw [join_ones1]
      refine q (tx l) G9 H9 ⟨fun ch hch => hL.1 ch (hlm ch hch), ?_, ?_⟩ ⟨z, hL.2.2, hlm⟩ (eG.trans e9) (W9.up (by omega))
      · show 1 ≤ l.length
        omega
      · show l.length ≤ most
        omega
def sp_law_told (K : PySem.W.Frag) : Sp := fun vs H Q _ => ∃ (v : V) (n : Nat) (b : Addr) (k : Bool) (ws : List Str) (c : Str → Nat), vs = [v, .ref b, .bl k] ∧ Dp K H v (bookD n ws) ∧ SqT K H b (cntV ws c) ∧ Bk n ws ∧ RetRing ws c H Q
theorem ok_law_told (T : Tx K mg) : Ok P w K mg base CX0 8 "_law_told" ["book", "counts", "named"] (sp_law_told K) := by
  refine T.d_law_told.ok sc_law_told (fun vs H Q E h => ?_) (fun f cdv A outer s H vs Q E hG hr h => ?_)
  · obtain ⟨v, n, b, k, ws, c, rfl, _⟩ := h
    rfl
  · obtain ⟨v, n, b, k, ws, c, rfl, hB, hc, B, q⟩ := h
    refine ⟨_, (pss_one (ps_ret (pe_ifExp (pt_val (pv 2)) (pe_callKO (ok_ring_of T) T.k_ring_of_counts_book hG (hr.mono (by decide)) (pk_cons (pv 1) (pk_cons (pv 0) pk_nil))) (pe_callO (ok_ring_of T) hG (hr.mono (by decide)) (pa_cons (pv 0) (pa_cons (pv 1) pa_nil)))))), ?_⟩
    refine ⟨_, rfl, _, rfl, ?_⟩
    cases k with
    | true => exact iteT ⟨_, rfl, _, rfl, rfl, v, n, b, ws, c, rfl, hB, hc, B, q⟩
    | false => exact iteF ⟨_, rfl, _, rfl, v, n, b, ws, c, rfl, hB, hc, B, q⟩
end

section
variable {P : Program} {w : World} {K : PySem.W.Frag} {mg : Str → Option Value} {base : Heap}
theorem dpa_pairs {H : Hp} {F : Str → V} {Fd : Str → PyData} (h : ∀ z v, Dp K H v (Fd z) → v = F z) : ∀ {ws : List Str} {acc : List V}, DpAll K H acc (ws.map fun z => .tuple [.str z, Fd z]) → ∃ ps : List Addr, acc = ps.map V.ref ∧ PySem.Paired (fun p (kv : Key × V) => SqT K H p [kV kv.1, kv.2]) ps (fkv F ws)
  | [], _, ha => by
    cases ha
    exact ⟨[], rfl, .nil⟩
  | z :: ws, _, ha => by
    cases ha with
    | cons h1 t =>
      obtain ⟨ps, rfl, hp⟩ := dpa_pairs h t
      obtain ⟨q, xs, rfl, hq, hx⟩ := dp_tup h1
      cases hx with
      | cons g1 g2 =>
        cases g1
        cases g2 with
        | cons g1 g2 =>
          cases g2
          obtain rfl := h z _ g1
          exact ⟨q :: ps, rfl, .cons hq hp⟩
def sp_law_counted (K : PySem.W.Frag) : Sp := fun vs H Q _ => ∃ (v : V) (n : Nat) (ws : List Str) (r : Str), vs = [v, .str r] ∧ Dp K H v (bookD n ws) ∧ Bk n ws ∧ 1 ≤ r.length ∧ r.length ≤ 10000 ∧ (∀ x ∈ rnd n r, x ∈ ws) ∧ RetD K (cntD ws (rndC n r)) H Q
theorem ok_law_counted (T : Tx K mg) : Ok P w K mg base CX0 2 "_law_counted" ["book", "ring"] (sp_law_counted K) := by
  refine T.d_law_counted.ok sc_law_counted (fun vs H Q E h => ?_) (fun f cdv A outer s H vs Q E hG hr h => ?_)
  · obtain ⟨v, n, ws, r, rfl, _⟩ := h
    rfl
  · obtain ⟨v, n, ws, r, rfl, hB, B, hr2, hr3, hin, q⟩ := h
    refine ⟨_, (pss_cons (ps_set (i := 2) sc_law_counted.nd rfl (Or.inr rfl) (pe_callTy (call_dictPK (K := K) rfl) (by rfl) T.b_dict (by decide +kernel) (pa_cons (pe_lc (own := [("window", 4)]) (g := gName 4) (tt := tYes) rfl sc_law_counted.nd (pi_tupK (K := K) (pe_ix (ix_tupK (K := K)) (pv 0) pe_int (fun _ _ => rfl))) (blkOk_by (own := [("window", 4)]) (N := n_law_counted) (sc := defScope s_law_counted) (by decide +kernel)) (fun _ _ _ _ _ => pg_name (i := 4) sc_law_counted.nd rfl (Or.inl rfl)) (fun _ _ _ _ _ => pts_nil) (fun _ _ _ _ _ => (pe_tup (pa_cons (pv 4) (pa_cons pe_int pa_nil))))) pa_nil))) (pss_cons (ps_for PassesOwn.never rfl (pi_listK (K := K) (pe_callO (ok_law_read T) hG (hr.mono (by decide)) (pa_cons (pe_ix (ix_tupK (K := K)) (pv 0) pe_int (fun _ _ => rfl)) (pa_cons (pv 1) pa_nil)))) (pg_name (i := 3) sc_law_counted.nd rfl (Or.inl rfl)) (pss_one (ps_dput (hu_of hr) (pv 2) (pv 3) (pe_op op_add (pe_dget (hu_of hr) (pv 2) (pv 3) (fun _ _ => rfl)) pe_int) rfl))) (pss_one (ps_ret (pe_callTy (call_tupleK (K := K)) (by rfl) T.b_tuple (by decide +kernel) (pa_cons (pe_lc (own := [("window", 4)]) (g := gName 4) (tt := tYes) rfl sc_law_counted.nd (pi_tupK (K := K) (pe_ix (ix_tupK (K := K)) (pv 0) pe_int (fun _ _ => rfl))) (blkOk_by (own := [("window", 4)]) (N := n_law_counted) (sc := defScope s_law_counted) (by decide +kernel)) (fun _ _ _ _ _ => pg_name (i := 4) sc_law_counted.nd rfl (Or.inl rfl)) (fun _ _ _ _ _ => pts_nil) (fun _ _ _ _ _ => (pe_dget (hu_of hr) (pv 2) (pv 4) (fun _ _ => rfl)))) pa_nil)))))), ?_⟩
    obtain ⟨a, t, rfl, h1, h2⟩ := dp_book hB
    have few := B.few
    have hi6 := B.hi
    have lo2 := B.lo
    have nd : ws.Nodup := asc_nodup B.win.2
    have lm : (ws.map V.str).length = ws.length := List.length_map ..
    refine ⟨_, rfl, _, _, _, _, rfl, rfl, h1, atI_of (j := 1) rfl rfl, t, rfl, ⟨_, h2⟩, fun D1 nD1 => ?_⟩
    refine lcs_tp h2 (fun _ => true) (fun z => .tuple [.str z, .int 0]) nD1 (by omega) (fun _ _ => rfl) (fun z H3 Y Z hz e3 hy hn => ?_) (fun H3 acc e3 hD1 ha => ?_)
    · exact ⟨rfl, lc_yes ⟨_, rfl, sz_of (by show 2 ≤ 1000000; decide), fun p np => hy rfl _ _ (Ex.new np) (.tup (SqT.of upd_same) (.cons (.str _) (.cons (.int _) .nil)))⟩⟩
    rw [filter_true] at ha
    obtain ⟨ps, rfl, hps⟩ := dpa_pairs (F := fun _ => V.int 0) (Fd := fun _ => .int 0) (fun z v h => by cases h; rfl) ha
    refine ⟨D1, ps, _, rfl, SqL.of hD1, hps, fun D nD => ?_⟩
    rw [merge_fkv nd]
    have nD0 : H D = none := fresh_back e3 nD
    have hD : (upd H3 D (.dK (fkv (fun _ => V.int 0) ws))) D = some (.dK (fkv (fun z => .int (((rnd n r).take 0).count z : Int)) ws)) := by
      rw [upd_same]
      rfl
    have e03 : Ex H (upd H3 D (.dK (fkv (fun _ => V.int 0) ws))) := e3.trans (Ex.new nD)
    generalize upd H3 D (.dK (fkv (fun _ => V.int 0) ws)) = H4 at hD e03
    refine ⟨_, rfl, _, _, _, _, rfl, rfl, ex_t e03 h1, atI_of (j := 0) rfl rfl, _, rfl, n, r, rfl, hr2, hr3, by omega, by omega, fun l H5 e5 nl hl => ?_⟩
    have lD : l ≠ D := fun z => by
      rw [z, hD] at nl
      cases nl
    have eb : Ex H (hide D H5) := My.Ex.hid (e03.trans e5) nD0
    refine ⟨l, rfl, fo_lst (Hb := hide D H5) (SqL.of (by rw [hide_ne lD]; exact hl)) (fun i σ H' => ∃ x3, σ = [some (.ref a), some (.str r), some (.ref D), x3, none] ∧ Ex (hide D H5) H' ∧ H' D = some (.dK (fkv (fun z => .int (((rnd n r).take i).count z : Int)) ws))) ?_ ?_ ?_ ?_⟩
    · exact ⟨none, rfl, hide_ex, e5 _ _ hD⟩
    · exact fun i σ H' ⟨_, _, e, _⟩ => e
    · rintro i x σ H' hi ⟨x3, rfl, e, hD⟩
      obtain ⟨z, hz, rfl⟩ := str_at hi
      have zw : z ∈ ws := hin z (List.mem_of_getElem? hz)
      have g1 := DGet.k (k := kS z) hD
      rw [fkv_val zw] at g1
      refine ⟨_, rfl, _, rfl, D, _, rfl, g1, _, _, rfl, rfl, _, rfl, _, rfl, D, _, rfl, DPut.k (k := kS z) hD (sz_lt (by rw [fkv_len]; omega)), some (.str z), rfl, Ex.mut e hide_at, ?_⟩
      rw [upd_same, fkv_put_in zw]
      congr 2
      refine fkv_congr fun y _ => ?_
      rw [take_snoc hz, count_snoc]
      by_cases hy : y = z
      · rw [if_pos hy, if_pos hy, hy]
        rfl
      · rw [if_neg hy, if_neg hy]
        rfl
    · rintro σ H' ⟨x3, rfl, e, hD⟩
      rw [List.length_map, List.take_length] at hD
      have e04 := eb.trans e
      refine ⟨_, rfl, _, _, _, _, rfl, rfl, ex_t e04 h1, atI_of (j := 1) rfl rfl, t, rfl, ⟨_, ex_t e04 h2⟩, fun D2 nD2 => ?_⟩
      refine lcs_tp (ex_t e04 h2) (fun _ => true) (fun z => .int (rndC n r z : Int)) nD2 (by omega) (fun _ _ => rfl) (fun z H5 Y Z hz e5 hy hn => ?_) (fun H5 acc e5 hD5 ha => ?_)
      · have g := DGet.k (k := kS z) (e5 _ _ hD)
        rw [fkv_val hz] at g
        exact ⟨rfl, lc_yes ⟨_, rfl, _, rfl, D, _, rfl, g, hy rfl _ _ (Ex.refl _) (.int _)⟩⟩
      · rw [filter_true] at ha
        refine ⟨D2, _, rfl, .inl ⟨SqL.of hD5, fun l2 nl2 => q _ _ ((e04.trans e5).trans (Ex.new nl2)) (.tup (SqT.of upd_same) (dpa_ex (Ex.new nl2) ha))⟩⟩
/-! rounds -/
theorem cutS_mem2 {x : Str} {lo hi : Option Int} {c : Nat} (h : c ∈ sg (cutS x lo hi)) : c ∈ sg x := List.mem_of_mem_drop (List.mem_of_mem_take h)
theorem cutS_len2 {x : Str} {lo hi : Option Int} : (cutS x lo hi).length ≤ x.length := by
  show ((x.cps.toList.drop _).take _).length ≤ (sg x).length
  rw [List.length_take, List.length_drop]
  show min _ ((sg x).length - _) ≤ _
  omega
theorem cut_two {z : Str} {a : Nat} {u v : Option Int} (hz : Word z) (h1 : 1 ≤ z.length) (h2 : z.length ≤ 10) : Ring 20 (cutS z none (some ((a : Int) + 1)) ++ cutS z u v) := by
  refine ⟨fun ch hch => ?_, ?_, ?_⟩
  · rw [sg_app] at hch
    rcases List.mem_append.mp hch with h | h
    · exact hz ch (cutS_mem2 h)
    · exact hz ch (cutS_mem2 h)
  · rw [strLen_app, show ((a : Int) + 1) = ((a + 1 : Nat) : Int) by omega, cut_to]
    have : (tx ((sg z).take (a + 1))).length = min (a + 1) z.length := List.length_take ..
    omega
  · rw [strLen_app]
    have := cutS_len2 (x := z) (lo := none) (hi := some ((a : Int) + 1))
    have := cutS_len2 (x := z) (lo := u) (hi := v)
    omega
theorem te_split2 {t : TE} {σ : L2.St} {H : Hp} {Q : VK} (P : V → Hp → Prop) (ht : ∀ R : VK, (∀ v H', P v H' → R v H') → t σ H R) (hq : ∀ v H', P v H' → Q v H') : t σ H Q := ht Q hq
theorem min_nat (a b : Nat) : (if (b : Int) < (a : Int) then (b : Int) else (a : Int)) = ((min a b : Nat) : Int) := by
  by_cases h : (b : Int) < (a : Int)
  · rw [if_pos h]
    omega
  · rw [if_neg h]
    omega
def sp_law_rounds : Sp := fun vs H Q _ => ∃ (w : Addr) (most c : Nat) (G : Hp), vs = [.ref w, .int most] ∧ 3 ≤ most ∧ most ≤ 100 ∧ c ≤ 90000 ∧ Wt w c G H ∧
  ∀ a r0 rs G' H', Ex G G' → Wt w (c + 100) G' H' → G' a = some (.lst ((r0 :: rs).map V.str)) → r0.length ≤ most → rs.length ≤ 9 → (∀ r ∈ r0 :: rs, Ring 20 r) → Q (.ref a) H'
theorem ok_law_rounds (T : Tx K mg) : Ok P w K mg base CX0 3 "_law_rounds" ["well", "most"] sp_law_rounds := by
  refine T.d_law_rounds.ok sc_law_rounds (fun vs H Q E h => ?_) (fun f cdv A outer s H vs Q E hG hr h => ?_)
  · obtain ⟨w, most, c, G, rfl, _⟩ := h
    rfl
  · obtain ⟨w, most, c, G, rfl, hm, hm2, hc, W, q⟩ := h
    refine ⟨_, (pss_cons (ps_set (i := 2) sc_law_rounds.nd rfl (Or.inl rfl) (pe_slice sl_str pe_str po_none (po_some (pe_callB (call_min2 rfl) (by rfl) T.b_min (by decide +kernel) (pa_cons (pv 1) (pa_cons (pe_op op_add pe_int (pe_callO (ok_law_take T) hG (hr.mono (by decide)) (pa_cons (pv 0) (pa_cons pe_int pa_nil)))) pa_nil)))))) (pss_cons (ps_par (i := 3) (j := 4) rfl sc_law_rounds.nd rfl rfl (by decide) rfl rfl (pa_cons (pe_lst (pa_cons (pv 2) pa_nil)) (pa_cons (pe_op op_sub (pe_callB call_len_str (by rfl) T.b_len PySem.boot_len (pa_cons (pv 2) pa_nil)) pe_int) pa_nil)) (by rfl)) (pss_cons (ps_for PassesOwn.never rfl (pi_range1 (by rfl) T.b_range (pa_cons (pe_callO (ok_law_pick T) hG (hr.mono (by decide)) (pa_cons (pv 0) (pa_cons (pe_lst (pa_cons pe_int (pa_cons pe_int (pa_cons pe_int (pa_cons pe_int (pa_cons pe_int pa_nil)))))) pa_nil))) pa_nil)) (pg_name (i := 5) sc_law_rounds.nd rfl (Or.inl rfl)) (pss_cons (ps_set (i := 6) sc_law_rounds.nd rfl (Or.inl rfl) (pe_callO (ok_law_take T) hG (hr.mono (by decide)) (pa_cons (pv 0) (pa_cons (pe_callB call_len_str (by rfl) T.b_len PySem.boot_len (pa_cons (pv 2) pa_nil)) pa_nil)))) (pss_cons (ps_set (i := 7) sc_law_rounds.nd rfl (Or.inl rfl) (pe_callB (call_min2 rfl) (by rfl) T.b_min (by decide +kernel) (pa_cons (pv 4) (pa_cons (pe_op op_add (pe_op op_add (pv 6) pe_int) (pe_callO (ok_law_take T) hG (hr.mono (by decide)) (pa_cons (pv 0) (pa_cons (pe_callB call_len_str (by rfl) T.b_len PySem.boot_len (pa_cons (pv 2) pa_nil)) pa_nil)))) pa_nil)))) (pss_one (ps_expr (pe_bmK (K := K) PySem.F.plainAttrs_list PySem.F.slot_list_append PySem.F.type_list_append mt_append (pv 3) (pa_cons (pe_ifExp (pt_cmpR op_gt (pe_callO (ok_law_take T) hG (hr.mono (by decide)) (pa_cons (pv 0) (pa_cons pe_int pa_nil))) pe_int (nomark _)) (pe_op op_add_str (pe_slice sl_str (pv 2) po_none (po_some (pe_op op_add (pv 6) pe_int))) (pe_slice sl_str (pv 2) (po_some (pv 7)) po_none)) (pe_op op_add_str (pe_slice sl_str (pv 2) po_none (po_some (pe_op op_add (pv 7) pe_int))) (pe_slice sl_str (pv 2) (po_some (pv 6)) po_none))) pa_nil))))))) (pss_one (ps_ret (pv 3)))))), ?_⟩
    have s1 : 1 ≤ sizeLine := sz_of (by omega)
    have s5 : 5 ≤ sizeLine := sz_of (by omega)
    refine ⟨_, rfl, _, rfl, w, 8, c, G, rfl, by omega, by omega, by omega, W, fun i H1 hi W1 => ⟨_, _, rfl, rfl, _, _, rfl, _, rfl, "aceqmkbzvt", rfl, sz_of (by decide +kernel), ?_⟩⟩
    dsimp only
    rw [show (3 : Int) + (i : Int) = ((3 + i : Nat) : Int) by omega, min_nat, cut_to]
    have z10 : (sg ("aceqmkbzvt" : Str)).length = 10 := by decide +kernel
    have zl : (tx ((sg ("aceqmkbzvt" : Str)).take (min most (3 + i)))).length = min (min most (3 + i)) 10 := by
      show ((sg ("aceqmkbzvt" : Str)).take (min most (3 + i))).length = _
      rw [List.length_take, z10]
    have zw : Word (tx ((sg ("aceqmkbzvt" : Str)).take (min most (3 + i)))) := fun ch hch => word_lit ("aceqmkbzvt" : Str) (by decide +kernel) ch (List.mem_of_mem_take hch)
    generalize tx ((sg ("aceqmkbzvt" : Str)).take (min most (3 + i))) = z at zl zw
    have szz : z.length ≤ sizeLine := sz_of (by omega)
    refine ⟨_, rfl, s1, fun FD nF => ⟨_, rfl, z, rfl, szz, _, _, rfl, rfl, _, _, rfl, ?_⟩⟩
    have W2 := W1.new (o := .lst [.str z]) nF
    have hFD : (upd G FD (.lst [.str z])) FD = some (.lst ((z :: []).map V.str)) := upd_same
    have eF : Ex G (upd G FD (.lst [.str z])) := Ex.new (W1.free nF)
    have gF := W1.free nF
    generalize upd G FD (.lst [.str z]) = G2 at W2 hFD eF
    generalize upd H1 FD (.lst [.str z]) = H2 at W2
    refine ⟨_, rfl, s5, fun p np => ⟨w, .ref p, 5, c + 1, upd G2 p _, rfl, by omega, by omega, by omega, W2.new np, .inr ⟨p, _, rfl, .inl (SqL.of upd_same), rfl, fun v H3 hv W3 => ?_⟩⟩⟩
    obtain ⟨tn, ht, rfl⟩ := int_mem (is := [0, 2, 4, 7, 9]) hv
    have ht : 0 ≤ tn ∧ tn ≤ 9 := by
      simp only [List.mem_cons, List.mem_nil_iff, or_false] at ht
      omega
    have W3' : Wt w (c + 2) (upd G2 p (.lst [.int 0, .int 2, .int 4, .int 7, .int 9])) H3 := W3
    have eG3 : Ex G (upd G2 p (.lst [.int 0, .int 2, .int 4, .int 7, .int 9])) := eF.trans (Ex.new (W2.free np))
    have hF3 := Ex.new (o := .lst [.int 0, .int 2, .int 4, .int 7, .int 9]) (W2.free np) _ _ hFD
    clear W3
    generalize upd G2 p (.lst [.int 0, .int 2, .int 4, .int 7, .int 9]) = G3 at W3' eG3 hF3
    refine ⟨tn, rfl, by omega, by omega, ?_⟩
    refine fo_rng (fun k σ H' => ∃ (G' : Hp) (rs : List Str) (x5 x6 x7 : Option V), σ = [some (.ref w), some (.int most), some (.str z), some (.ref FD), some (.int ((z.length : Int) - 1)), x5, x6, x7] ∧ Ex G G' ∧ Wt w (c + 2 + 5 * k) G' H' ∧ G' FD = some (.lst ((z :: rs).map V.str)) ∧ rs.length ≤ k ∧ ∀ r ∈ z :: rs, Ring 20 r) ?_ ?_ ?_
    · exact ⟨G3, [], none, none, none, rfl, eG3, W3', hF3, Nat.le_refl _, fun r hr => by rw [List.mem_singleton.mp hr]; exact ⟨zw, by omega, by omega⟩⟩
    · rintro k σ H' hk ⟨G', rs, x5, x6, x7, rfl, e, W, hF, lr, hrs⟩
      refine ⟨_, rfl, _, rfl, z, rfl, szz, w, z.length, _, G', rfl, by omega, by omega, by omega, W, fun i H5 hi W5 => ?_⟩
      refine ⟨_, rfl, _, rfl, _, _, rfl, rfl, _, rfl, _, rfl, z, rfl, szz, w, z.length, _, G', rfl, by omega, by omega, by omega, W5, fun i2 H6 hi2 W6 => ⟨_, _, rfl, rfl, _, _, rfl, ?_⟩⟩
      dsimp only
      rw [show (z.length : Int) - 1 = ((z.length - 1 : Nat) : Int) by omega, show (i : Int) + 2 + (i2 : Int) = ((i + 2 + i2 : Nat) : Int) by omega, min_nat]
      generalize min (z.length - 1) (i + 2 + i2) = j
      refine ⟨_, rfl, .inl ⟨rfl, _, SqL.of (W6.e _ _ hF)⟩, ?_⟩
      refine te_split2 (t := tIf _ _ _) (fun v H' => ∃ t, v = .str t ∧ Ring 20 t ∧ Wt w (c + 2 + 5 * k + 3) G' H') (fun R hR => ?_) (fun v H7 ⟨t, hv, ht2, W7⟩ => ?_)
      · refine ⟨_, rfl, w, 3, _, G', rfl, by omega, by omega, by omega, W6, fun i3 H7 hi3 W7 => ⟨_, _, rfl, rfl, _, rfl, ?_⟩⟩
        have W7 := W7.up (d := c + 2 + 5 * k + 3) (by omega)
        have cl : ∀ u v u2 v2 : Option Int, (cutS z u v).length + (cutS z u2 v2).length ≤ sizeLine := fun u v u2 v2 => by
          have h1 := cutS_len2 (x := z) (lo := u) (hi := v)
          have h2 := cutS_len2 (x := z) (lo := u2) (hi := v2)
          exact sz_of (by omega)
        cases decide ((0 : Int) < (i3 : Int)) with
        | true => exact iteT ⟨_, rfl, _, rfl, _, _, rfl, rfl, _, rfl, z, rfl, szz, _, rfl, _, rfl, _, rfl, z, rfl, szz, _, _, rfl, rfl, cl _ _ _ _, hR _ _ ⟨_, rfl, cut_two zw (by omega) (by omega), W7⟩⟩
        | false => exact iteF ⟨_, rfl, _, rfl, _, _, rfl, rfl, _, rfl, z, rfl, szz, _, rfl, _, rfl, _, rfl, z, rfl, szz, _, _, rfl, rfl, cl _ _ _ _, hR _ _ ⟨_, rfl, cut_two zw (by omega) (by omega), W7⟩⟩
      · subst hv
        refine ⟨FD, _, _, rfl, rfl, W7.e _ _ hF, sz_lt (by rw [List.length_map, List.length_cons]; omega), ?_⟩
        refine ⟨upd G' FD (.lst ((z :: rs).map V.str ++ [.str t])), rs ++ [t], _, _, _, rfl, Ex.mut e gF, (W7.mut hF).up (by omega), ?_, ?_, ?_⟩
        · rw [upd_same, ← List.cons_append, List.map_append]
          rfl
        · rw [List.length_append]
          have : [t].length = 1 := rfl
          omega
        · intro r hr
          rw [← List.cons_append] at hr
          rcases List.mem_append.mp hr with h | h
          · exact hrs r h
          · rw [List.mem_singleton.mp h]
            exact ht2
    · rintro σ H' ⟨G', rs, x5, x6, x7, rfl, e, W, hF, lr, hrs⟩
      exact ⟨_, rfl, q FD z rs G' H' e (W.up (by omega)) hF (by omega) (by omega) hrs⟩
end

section
variable {P : Program} {wd : World} {K : PySem.W.Frag} {mg : Str → Option Value} {base : Heap}
theorem cutV_init (xs : List V) : cutV xs none (some (-1 : Int)) = xs.dropLast := by
  unfold cutV
  have e1 : HT.sIx xs.length 0 none = 0 := rfl
  have e2 : HT.sIx xs.length xs.length (some (-1 : Int)) = xs.length - 1 := by
    show (if (-1 : Int) < 0 then ((-1 : Int) + (xs.length : Int)).toNat else min (-1 : Int).toNat xs.length) = _
    rw [if_pos (by decide)]
    omega
  rw [e1, e2, List.drop_zero, Nat.sub_zero, List.dropLast_eq_take]
theorem Ring.up {m k : Nat} {r : Str} (h : Ring m r) (hk : m ≤ k) : Ring k r := ⟨h.1, h.2.1, Nat.le_trans h.2.2 hk⟩
theorem gName_go2 {i : Nat} {v : V} {σ : L2.St} {H : Hp} {Q : L2.St → Hp → Prop} (h : Q (σ.set i (some v)) H) : gName i v σ H Q := h
theorem asg_split {te : TE} {g : TG} {u : TS} {D : Ends} {σ : L2.St} {H : Hp} (P : V → Hp → Prop) (ht : ∀ R : VK, (∀ v H', P v H' → R v H') → te σ H R) (hq : ∀ v H', P v H' → g v σ H' fun σ2 H2 => u D σ2 H2) : tSeq (tAsg te g) u D σ H := ht _ hq
def jn (rs : List Str) : Str := Txt.join ("" : Str) rs
theorem len_le2 {ws : List Str} {m : Nat} (h : ∀ x ∈ ws, x.length ≤ m) : (ws.map (·.length)).sum ≤ ws.length * m := by
  induction ws with
  | nil => exact Nat.zero_le _
  | cons x ws ih =>
    have h1 := h x (List.mem_cons_self ..)
    have h2 := ih fun y hy => h y (List.mem_cons_of_mem _ hy)
    rw [List.map_cons, List.sum_cons, List.length_cons, Nat.add_mul, Nat.one_mul]
    show x.length + _ ≤ _
    omega
theorem jn_len (rs : List Str) : (jn rs).length = (rs.map (·.length)).sum := by
  rw [len_sg]
  unfold jn
  rw [join_letters]
  unfold letsOf
  rw [List.length_flatMap]
  rfl
theorem jn_ring {r0 : Str} {rs : List Str} (h : ∀ r ∈ r0 :: rs, Ring 40 r) (hl : rs.length ≤ 9) : Ring 400 (jn (r0 :: rs)) := by
  refine ⟨fun ch hch => ?_, ?_, ?_⟩
  · unfold jn at hch
    rw [join_letters] at hch
    obtain ⟨x, hx, hc⟩ := letsOf_mem.mp hch
    exact (h x hx).1 ch hc
  · rw [jn_len, List.map_cons, List.sum_cons]
    have := (h r0 (List.mem_cons_self ..)).2.1
    omega
  · rw [jn_len]
    have := len_le2 (ws := r0 :: rs) (m := 40) fun x hx => (h x hx).2.2
    rw [List.length_cons] at this
    omega
def cntW (n : Nat) (rs : List Str) : Nat := (ded (rnd n (jn rs))).length
theorem cnt_one {n : Nat} {r0 : Str} : cntW n [r0] ≤ r0.length := by
  have := ded_le (rnd n (jn [r0]))
  rw [rnd_len, jn_len] at this
  exact this
def sp_law_house (K : PySem.W.Frag) : Sp := fun vs H Q _ => ∃ (w : Addr) (most c : Nat) (G : Hp), vs = [.ref w, .int most] ∧ 4 ≤ most ∧ most ≤ 40 ∧ c ≤ 50000 ∧ Wt w c G H ∧
  ∀ (T b : Addr) (n : Nat) (r : Str) G' H', Ex G G' → Wt w (c + 500) G' H' → SqT K G' T [.ref b, .str r] → Dp K G' (.ref b) (bookD n (sortS (ded (rnd n r)))) → 2 ≤ n → n ≤ 6 → Ring 400 r → (sortS (ded (rnd n r))).length ≤ most → Q (.ref T) H'
theorem ok_law_house (T : Tx K mg) : Ok P wd K mg base CX0 4 "_law_house" ["well", "most"] (sp_law_house K) := by
  refine T.d_law_house.ok sc_law_house (fun vs H Q E h => ?_) (fun f cdv A outer s H vs Q E hG hr h => ?_)
  · obtain ⟨w, most, c, G, rfl, _⟩ := h
    rfl
  · obtain ⟨w, most, c, G, rfl, hm, hm2, hc, W, q⟩ := h
    refine ⟨_, (pss_cons (ps_set (i := 2) sc_law_house.nd rfl (Or.inl rfl) (pe_callO (ok_law_pick T) hG (hr.mono (by decide)) (pa_cons (pv 0) (pa_cons (pe_lst (pa_cons pe_int (pa_cons pe_int (pa_cons pe_int (pa_cons pe_int (pa_cons pe_int (pa_cons pe_int (pa_cons pe_int (pa_cons pe_int pa_nil))))))))) pa_nil)))) (pss_cons (ps_set (i := 3) sc_law_house.nd rfl (Or.inl rfl) (pe_ifExp (pt_cmpR op_gt (pe_callO (ok_law_take T) hG (hr.mono (by decide)) (pa_cons (pv 0) (pa_cons pe_int pa_nil))) pe_int (nomark _)) (pe_callO (ok_law_rounds T) hG (hr.mono (by decide)) (pa_cons (pv 0) (pa_cons (pv 1) pa_nil))) (pe_lst (pa_cons (pe_callO (ok_law_ring T) hG (hr.mono (by decide)) (pa_cons (pv 0) (pa_cons (pv 1) pa_nil))) pa_nil)))) (pss_cons (ps_for PassesOwn.never rfl (pi_range1 (by rfl) T.b_range (pa_cons pe_int pa_nil)) (pg_name (i := 4) sc_law_house.nd rfl (Or.inl rfl)) (pss_one (ps_if (pt_cmpR op_gt (pe_callB cr_lenSet (by rfl) T.b_len PySem.boot_len (pa_cons (pe_callTy (cr_setL (K := K) rfl) (by rfl) T.b_set (by decide +kernel) (pa_cons (pe_callO (ok_law_read T) hG (hr.mono (by decide)) (pa_cons (pv 2) (pa_cons (pe_joinK (K := K) pe_str (pv 3)) pa_nil))) pa_nil)) pa_nil)) (pv 1) (nomark _)) (pss_one (ps_set (i := 3) sc_law_house.nd rfl (Or.inl rfl) (pe_slice (sl_listK (K := K)) (pv 3) po_none (po_some (pe_un un_neg pe_int))))) pss_nil))) (pss_cons (ps_set (i := 5) sc_law_house.nd rfl (Or.inl rfl) (pe_joinK (K := K) pe_str (pv 3))) (pss_one (ps_ret (pe_tup (pa_cons (pe_tup (pa_cons (pv 2) (pa_cons (pe_callTy (call_tupleK (K := K)) (by rfl) T.b_tuple (by decide +kernel) (pa_cons (pe_callB (cr_sortSet rfl hr.units) (by rfl) T.b_sorted (by decide +kernel) (pa_cons (pe_callTy (cr_setL (K := K) rfl) (by rfl) T.b_set (by decide +kernel) (pa_cons (pe_callO (ok_law_read T) hG (hr.mono (by decide)) (pa_cons (pv 2) (pa_cons (pv 5) pa_nil))) pa_nil)) pa_nil)) pa_nil)) pa_nil))) (pa_cons (pv 5) pa_nil))))))))), ?_⟩
    have s1 : 1 ≤ sizeLine := sz_of (by omega)
    have s2 : 2 ≤ sizeLine := sz_of (by omega)
    have s8 : 8 ≤ sizeLine := sz_of (by omega)
    have e0 : ("" : Str).length = 0 := by decide +kernel
    refine ⟨_, rfl, s8, fun p np => ⟨w, .ref p, 8, c, upd G p _, rfl, by omega, by omega, by omega, W.new np, .inr ⟨p, _, rfl, .inl (SqL.of upd_same), rfl, fun v H2 hv W2 => ?_⟩⟩⟩
    obtain ⟨ni, hni, rfl⟩ := int_mem (is := [2, 2, 2, 3, 3, 4, 5, 6]) hv
    obtain ⟨n, rfl, hn2, hn6⟩ : ∃ n : Nat, ni = (n : Int) ∧ 2 ≤ n ∧ n ≤ 6 := by
      simp only [List.mem_cons, List.mem_nil_iff, or_false] at hni
      exact ⟨ni.toNat, by omega, by omega, by omega⟩
    have W2' : Wt w (c + 1) (upd G p (.lst [.int 2, .int 2, .int 2, .int 3, .int 3, .int 4, .int 5, .int 6])) H2 := W2
    have eG2 : Ex G (upd G p (.lst [.int 2, .int 2, .int 2, .int 3, .int 3, .int 4, .int 5, .int 6])) := Ex.new (W.free np)
    clear W2
    generalize upd G p (.lst [.int 2, .int 2, .int 2, .int 3, .int 3, .int 4, .int 5, .int 6]) = G2 at W2' eG2
    refine gName_go2 ?_
    dsimp only
    refine asg_split (fun v H' => ∃ a r0 rs G', v = .ref a ∧ Ex G2 G' ∧ Wt w (c + 302) G' H' ∧ G' a = some (.lst ((r0 :: rs).map V.str)) ∧ r0.length ≤ most ∧ rs.length ≤ 9 ∧ ∀ r ∈ r0 :: rs, Ring 40 r) (fun R hR => ?_) (fun v H3 hv3 => ?_)
    · refine ⟨_, rfl, w, 5, _, G2, rfl, by omega, by omega, by omega, W2', fun i H3 hi W3 => ⟨_, _, rfl, rfl, _, rfl, ?_⟩⟩
      cases decide ((0 : Int) < (i : Int)) with
      | true => exact iteT ⟨_, rfl, _, rfl, w, most, _, G2, rfl, by omega, by omega, by omega, W3, fun a r0 rs G' H' e W4 ha h1 h2 h3 => hR _ _ ⟨a, r0, rs, G', rfl, e, W4.up (by omega), ha, h1, h2, fun r hr => (h3 r hr).up (by omega)⟩⟩
      | false => 
        refine iteF ⟨_, rfl, _, rfl, w, most, _, G2, rfl, by omega, by omega, by omega, W3, fun r G' H' hr _ e W4 => ⟨s1, fun p np => hR _ _ ⟨p, r, [], _, rfl, e.trans (Ex.new (W4.free np)), (W4.new np).up (by omega), upd_same, hr.2.2, by show 0 ≤ 9; omega, fun r' hr' => ?_⟩⟩⟩
        rw [List.mem_singleton.mp hr']
        exact hr.up (by omega)
    obtain ⟨a, r0, rs, G3, rfl, e3, W3, ha, h1, h2, h3⟩ := hv3
    refine ⟨9, rfl, by decide, by decide, ?_⟩
    refine fo_rng (fun k σ H' => ∃ (G' : Hp) (a : Addr) (rs : List Str) (x4 : Option V), σ = [some (.ref w), some (.int most), some (.int n), some (.ref a), x4, none] ∧ Ex G2 G' ∧ Wt w (c + 302) G' H' ∧ G' a = some (.lst ((r0 :: rs).map V.str)) ∧ rs.length ≤ 9 ∧ (∀ r ∈ r0 :: rs, Ring 40 r) ∧ (cntW n (r0 :: rs) ≤ most ∨ rs.length + k ≤ 9)) ?_ ?_ ?_
    · exact ⟨G3, a, rs, none, rfl, e3, W3, ha, h2, h3, .inr (by omega)⟩
    · rintro k σ H' hk ⟨G', a, rs, x4, rfl, e, W, ha, lr, hrs, hd⟩
      have J := jn_ring hrs lr
      have aH := W.e _ _ ha
      refine ⟨_, rfl, ⟨_, rfl⟩, _, rfl, "", a, r0 :: rs, rfl, rfl, .inl (SqL.of aH), ?_, n, jn (r0 :: rs), rfl, J.2.1, by have := J.2.2; omega, by omega, by omega, fun l H5 e5 nl hl => ⟨l, _, rfl, SqL.of hl, by rw [rnd_len]; have := J.2.2; omega, fun p np => ⟨p, _, rfl, upd_same, _, rfl, _, _, rfl, rfl, _, rfl, ?_⟩⟩⟩
      · rw [← jn_len, e0]
        have := J.2.2
        omega
      obtain ⟨G5, e5', W5, _⟩ := W.ex e5
      have W6 := W5.new (o := SetH P wd p (ded (rnd n (jn (r0 :: rs))))) np
      have g5 := W5.free np
      have ha6 := Ex.new (o := SetH P wd p (ded (rnd n (jn (r0 :: rs))))) g5 _ _ (e5' _ _ ha)
      have e6 := (e.trans e5').trans (Ex.new (o := SetH P wd p (ded (rnd n (jn (r0 :: rs))))) g5)
      by_cases hgt : (most : Int) < ((ded (rnd n (jn (r0 :: rs)))).length : Int)
      · rw [show decide ((most : Int) < ((ded (rnd n (jn (r0 :: rs)))).length : Int)) = true from decide_eq_true hgt]
        have hc : most < cntW n (r0 :: rs) := by unfold cntW; omega
        have hne : rs ≠ [] := fun z => by
          rw [z] at hc
          have := cnt_one (n := n) (r0 := r0)
          omega
        have hlen : 0 < rs.length := List.length_pos_iff.mpr hne
        refine iteT ⟨_, rfl, 1, rfl, _, rfl, a, _, rfl, SqL.of (W6.e _ _ ha6), fun p2 np2 => ?_⟩
        have hdl : cutV ((r0 :: rs).map V.str) none (some (-1 : Int)) = (r0 :: rs.dropLast).map V.str := by
          rw [cutV_init, ← List.map_dropLast, List.dropLast_cons_of_ne_nil hne]
        refine ⟨upd _ p2 (.lst (cutV ((r0 :: rs).map V.str) none (some (-1 : Int)))), p2, rs.dropLast, _, rfl, e6.trans (Ex.new (W6.free np2)), W6.new np2, by rw [upd_same, hdl], ?_, ?_, ?_⟩
        · rw [List.length_dropLast]
          omega
        · intro r hr
          refine hrs r ?_
          rcases List.mem_cons.mp hr with h | h
          · rw [h]
            exact List.mem_cons_self ..
          · exact List.mem_cons_of_mem _ (List.dropLast_subset _ h)
        · rw [List.length_dropLast]
          rcases hd with h | h
          · omega
          · exact .inr (by omega)
      · rw [show decide ((most : Int) < ((ded (rnd n (jn (r0 :: rs)))).length : Int)) = false from decide_eq_false hgt]
        exact iteF ⟨_, a, rs, _, rfl, e6, W6, ha6, lr, hrs, .inl (by unfold cntW; omega)⟩
    · rintro σ H' ⟨G', a, rs, x4, rfl, e, W, ha, lr, hrs, hd⟩
      have J := jn_ring hrs lr
      have aH := W.e _ _ ha
      have hcm : cntW n (r0 :: rs) ≤ most := by
        rcases hd with h | h
        · exact h
        · have : rs = [] := List.length_eq_zero_iff.mp (by have : ((9 : Int).toNat) = 9 := rfl; omega)
          rw [this]
          have := cnt_one (n := n) (r0 := r0)
          omega
      refine ⟨⟨_, rfl⟩, _, rfl, "", a, r0 :: rs, rfl, rfl, .inl (SqL.of aH), ?_, ?_⟩
      · rw [← jn_len, e0]
        have := J.2.2
        omega
      refine ⟨_, rfl, _, rfl, _, rfl, n, jn (r0 :: rs), rfl, J.2.1, by have := J.2.2; omega, by omega, by omega, fun l H5 e5 nl hl => ⟨l, _, rfl, SqL.of hl, by rw [rnd_len]; have := J.2.2; omega, fun p np => ⟨p, _, rfl, upd_same, fun p2 np2 => ⟨p2, _, rfl, .inl ⟨SqL.of upd_same, fun l2 nl2 => ⟨s2, fun b nb => ⟨_, rfl, s2, fun T nT => ?_⟩⟩⟩⟩⟩⟩⟩
      obtain ⟨G5, e5', W5, _⟩ := W.ex e5
      have W6 := W5.new (o := SetH P wd p (ded (rnd n (jn (r0 :: rs))))) np
      have W7 := W6.new (o := .lst ((sortS (ded (rnd n (jn (r0 :: rs))))).map V.str)) np2
      have W8 := W7.new (o := .tup ((sortS (ded (rnd n (jn (r0 :: rs))))).map V.str)) nl2
      have W9 := W8.new (o := .tup [.int n, .ref l2]) nb
      have W10 := W9.new (o := .tup [.ref b, .str (jn (r0 :: rs))]) nT
      have x9 := Ex.new (o := .tup [.int (n : Int), .ref l2]) (W8.free nb)
      have x10 := Ex.new (o := .tup [.ref b, .str (jn (r0 :: rs))]) (W9.free nT)
      have ee := ((((e5'.trans (Ex.new (o := SetH P wd p (ded (rnd n (jn (r0 :: rs))))) (W5.free np))).trans (Ex.new (o := .lst ((sortS (ded (rnd n (jn (r0 :: rs))))).map V.str)) (W6.free np2))).trans (Ex.new (o := .tup ((sortS (ded (rnd n (jn (r0 :: rs))))).map V.str)) (W7.free nl2))).trans x9).trans x10
      refine q T b n (jn (r0 :: rs)) _ _ ((eG2.trans e).trans ee) (W10.up (by omega)) (SqT.of upd_same) (bookDp (SqT.of (x10 _ _ upd_same)) (SqT.of (x10 _ _ (x9 _ _ upd_same)))) hn2 hn6 J ?_
      rw [sortS_len]
      exact hcm
end

section
variable {P : Program} {wd : World} {K : PySem.W.Frag} {mg : Str → Option Value} {base : Heap}
def Stp (n : Nat) (x : Str) : Prop := Word x ∧ x.length = n
theorem house_bk {n m : Nat} {r : Str} (h1 : 2 ≤ n) (h2 : n ≤ 6) (hr : Ring m r) (hl : (sortS (ded (rnd n r))).length ≤ 80) : Bk n (sortS (ded (rnd n r))) := by
  refine ⟨h1, h2, ⟨fun x hx => rnd_stp hr x (ded_mem.mp (sortS_mem.mp hx)), sortS_asc (ded_nd _)⟩, ?_, hl⟩
  intro h
  have l1 : (sortS (ded (rnd n r))).length = 0 := by rw [h]; rfl
  rw [sortS_len] at l1
  have l2 : 0 < (rnd n r).length := by rw [rnd_len]; exact hr.2.1
  obtain ⟨x, hx⟩ := List.exists_mem_of_ne_nil _ (List.length_pos_iff.mp l2)
  have h3 := ded_mem.mpr hx
  rw [List.length_eq_zero_iff.mp l1] at h3
  cases h3
theorem seqIx {i n : Nat} (h : i < n) : seqIndex? (i : Int) n = some i := by
  unfold seqIndex?
  have h1 : ¬ ((i : Int) < 0) := by omega
  have h2 : (decide (0 ≤ (i : Int)) && decide ((i : Int) < (n : Int))) = true := by
    rw [decide_eq_true (by omega), decide_eq_true (by omega)]
    rfl
  rw [if_neg h1]
  show (if (decide (0 ≤ (i : Int)) && decide ((i : Int) < (n : Int))) = true then some (i : Int).toNat else none) = _
  rw [if_pos h2, Int.toNat_natCast]
def sp_law_web (K : PySem.W.Frag) : Sp := fun vs H Q _ => ∃ (w : Addr) (most c : Nat) (G : Hp), vs = [.ref w, .int most] ∧ 4 ≤ most ∧ most ≤ 40 ∧ c ≤ 40000 ∧ Wt w c G H ∧
  ∀ (b : Addr) (n : Nat) (ws : List Str) G' H', Ex G G' → Wt w (c + 2000) G' H' → Dp K G' (.ref b) (bookD n ws) → Bk n ws → ws.length ≤ 40 → Q (.ref b) H'
theorem ok_law_web (T : Tx K mg) : Ok P wd K mg base CX0 5 "_law_web" ["well", "most"] (sp_law_web K) := by
  refine T.d_law_web.ok sc_law_web (fun vs H Q E h => ?_) (fun f cdv A outer s H vs Q E hG hr h => ?_)
  · obtain ⟨w, most, c, G, rfl, _⟩ := h
    rfl
  · obtain ⟨w, most, c, G, rfl, hm, hm2, hc, W, q⟩ := h
    refine ⟨_, (pss_cons (ps_asg (pe_callO (ok_law_house T) hG (hr.mono (by decide)) (pa_cons (pv 0) (pa_cons (pv 1) pa_nil))) (pg_tup rfl (pgs_cons (pg_tup rfl (pgs_cons (pg_name (i := 2) sc_law_web.nd rfl (Or.inl rfl)) (pgs_cons (pg_name (i := 3) sc_law_web.nd rfl (Or.inl rfl)) pgs_nil))) (pgs_cons (pg_name (i := 4) sc_law_web.nd rfl (Or.inl rfl)) pgs_nil)))) (pss_cons (ps_set (i := 5) sc_law_web.nd rfl (Or.inl rfl) (pe_callTy (call_listK (K := K)) (by rfl) T.b_list (by decide +kernel) (pa_cons (pv 3) pa_nil))) (pss_cons (ps_if (pt_cmpR op_eq (pe_callO (ok_law_take T) hG (hr.mono (by decide)) (pa_cons (pv 0) (pa_cons pe_int pa_nil))) pe_int (nomark _)) (pss_one (ps_set (i := 5) sc_law_web.nd rfl (Or.inl rfl) (pe_op op_cat (pv 5) (pe_callO (ok_law_read T) hG (hr.mono (by decide)) (pa_cons (pv 2) (pa_cons (pe_callO (ok_law_ring T) hG (hr.mono (by decide)) (pa_cons (pv 0) (pa_cons (pv 1) pa_nil))) pa_nil)))))) pss_nil) (pss_cons (ps_for PassesOwn.never rfl (pi_range1 (by rfl) T.b_range (pa_cons (pe_callO (ok_law_take T) hG (hr.mono (by decide)) (pa_cons (pv 0) (pa_cons pe_int pa_nil))) pa_nil)) (pg_name (i := 6) sc_law_web.nd rfl (Or.inl rfl)) (pss_one (ps_expr (pe_bmK (K := K) PySem.F.plainAttrs_list PySem.F.slot_list_append PySem.F.type_list_append mt_append (pv 5) (pa_cons (pe_joinK (K := K) pe_str (pe_lc (own := [("letter", 7)]) (g := gName 7) (tt := tYes) rfl sc_law_web.nd (pi_range1 (by rfl) T.b_range (pa_cons (pv 2) pa_nil)) (blkOk_by (own := [("letter", 7)]) (N := n_law_web) (sc := defScope s_law_web) (by decide +kernel)) (fun _ _ _ _ _ => pg_name (i := 7) sc_law_web.nd rfl (Or.inl rfl)) (fun _ _ _ _ _ => pts_nil) (fun _ _ _ _ _ => (pe_callO (ok_law_pick T) hG (hr.mono (by decide)) (pa_cons (pv 0) (pa_cons pe_str pa_nil)))))) pa_nil))))) (pss_cons (ps_set (i := 3) sc_law_web.nd rfl (Or.inl rfl) (pe_callB (cr_sortSet rfl hr.units) (by rfl) T.b_sorted (by decide +kernel) (pa_cons (pe_callTy (cr_setL (K := K) rfl) (by rfl) T.b_set (by decide +kernel) (pa_cons (pv 5) pa_nil)) pa_nil))) (pss_cons (ps_for PassesOwn.never rfl (pi_range1 (by rfl) T.b_range (pa_cons (pe_callO (ok_law_take T) hG (hr.mono (by decide)) (pa_cons (pv 0) (pa_cons pe_int pa_nil))) pa_nil)) (pg_name (i := 6) sc_law_web.nd rfl (Or.inl rfl)) (pss_one (ps_if (pt_cmpR op_gt (pe_callB (call_lenK (K := K)) (by rfl) T.b_len PySem.boot_len (pa_cons (pv 3) pa_nil)) pe_int (nomark _)) (pss_one (ps_expr (pe_bmK (K := K) PySem.F.plainAttrs_list PySem.F.slot_list_pop PySem.F.type_list_pop mt_popAt (pv 3) (pa_cons (pe_callO (ok_law_take T) hG (hr.mono (by decide)) (pa_cons (pv 0) (pa_cons (pe_callB (call_lenK (K := K)) (by rfl) T.b_len PySem.boot_len (pa_cons (pv 3) pa_nil)) pa_nil))) pa_nil)))) pss_nil))) (pss_one (ps_ret (pe_tup (pa_cons (pv 2) (pa_cons (pe_callTy (call_tupleK (K := K)) (by rfl) T.b_tuple (by decide +kernel) (pa_cons (pe_slice (sl_listK (K := K)) (pv 3) po_none (po_some (pv 1))) pa_nil)) pa_nil))))))))))), ?_⟩
    have s1 : 1 ≤ sizeLine := sz_of (by omega)
    have s2 : 2 ≤ sizeLine := sz_of (by omega)
    refine ⟨_, rfl, _, rfl, w, most, c, G, rfl, hm, hm2, by omega, W, fun T b n r G1 H1 e1 W1 hT hB hn2 hn6 hr hle => ?_⟩
    have B1 := house_bk hn2 hn6 hr (by omega)
    obtain ⟨b', t, eb, hb, ht⟩ := dp_book hB
    cases eb
    have mem1 : ∀ x ∈ sortS (ded (rnd n r)), Stp n x := fun x hx => B1.win.1 x hx
    have ne1 := B1.ne
    generalize sortS (ded (rnd n r)) = ws1 at hB ht hle mem1 ne1
    clear B1
    refine ⟨T, _, rfl, ex_t W1.e hT, rfl, _, _, rfl, b, _, rfl, ex_t W1.e hb, rfl, _, _, rfl, _, _, rfl, rfl, _, _, rfl, rfl, ?_⟩
    refine ⟨_, rfl, t, _, rfl, .inr (ex_t W1.e ht), fun tl ntl => ?_⟩
    have W2 := W1.new (o := .lst (ws1.map V.str)) ntl
    have htl : (upd G1 tl (.lst (ws1.map V.str))) tl = some (.lst (ws1.map V.str)) := upd_same
    have e2 : Ex G (upd G1 tl (.lst (ws1.map V.str))) := e1.trans (Ex.new (W1.free ntl))
    have gtl : G tl = none := fresh_back e1 (W1.free ntl)
    generalize upd G1 tl (.lst (ws1.map V.str)) = G2 at W2 htl e2
    generalize upd H1 tl (.lst (ws1.map V.str)) = H2 at W2
    refine gName_go2 ?_
    dsimp only
    refine ts_two (t := tIfS _ _ _) (fun σ H' => ∃ (G' : Hp) (tl : Addr) (xs : List Str), σ = [some (.ref w), some (.int most), some (.int n), some (.ref t), some (.str r), some (.ref tl), none, none] ∧ Ex G G' ∧ Wt w (c + 800) G' H' ∧ G' tl = some (.lst (xs.map V.str)) ∧ G tl = none ∧ (∀ x ∈ xs, Stp n x) ∧ xs ≠ [] ∧ xs.length ≤ 80) (fun D' hD' => ?_) ?_
    · refine ⟨_, rfl, w, 2, _, G2, rfl, by omega, by omega, by omega, W2, fun i H3 hi W3 => ⟨rfl, _, rfl, ?_⟩⟩
      cases decide (V.int (i : Int) = V.int 0) with
      | false => exact iteF (hD' _ _ ⟨G2, tl, ws1, rfl, e2, W3.up (by omega), htl, gtl, mem1, ne1, by omega⟩)
      | true =>
        refine iteT ⟨_, rfl, _, rfl, _, rfl, _, rfl, w, most, _, G2, rfl, by omega, by omega, by omega, W3, fun r2 G4 H4 hr2 _ e4 W4 => ⟨n, r2, rfl, hr2.2.1, by have := hr2.2.2; omega, by omega, by omega, fun l H5 e5 nl hl => ⟨tl, l, _, _, rfl, rfl, e5 _ _ (W4.e _ _ (e4 _ _ htl)), hl, ?_, fun p np => ?_⟩⟩⟩
        · rw [List.length_map, List.length_map, rnd_len]
          have := hr2.2.2
          exact sz_of (by omega)
        · obtain ⟨G5, eg5, W5, _⟩ := W4.ex e5
          have W6 := W5.new (o := .lst (ws1.map V.str ++ (rnd n r2).map V.str)) np
          refine hD' _ _ ⟨_, p, ws1 ++ rnd n r2, rfl, ((e2.trans e4).trans eg5).trans (Ex.new (W5.free np)), W6.up (by omega), by rw [upd_same, List.map_append], fresh_back ((e2.trans e4).trans eg5) (W5.free np), ?_, ?_, ?_⟩
          · exact fun x hx => (List.mem_append.mp hx).elim (mem1 x) (rnd_stp hr2 x)
          · intro h
            exact ne1 (List.append_eq_nil_iff.mp h).1
          · rw [List.length_append, rnd_len]
            have := hr2.2.2
            omega
    rintro σ H3 ⟨G3, tl, xs, rfl, e3, W3, htl, gtl, hxs, xne, lx⟩
    refine ⟨_, rfl, w, 3, _, G3, rfl, by omega, by omega, by omega, W3, fun tn H4 htn W4 => ⟨tn, rfl, by omega, by omega, ?_⟩⟩
    refine fo_rng (fun j σ H' => ∃ (G' : Hp) (xs : List Str) (x6 : Option V), σ = [some (.ref w), some (.int most), some (.int n), some (.ref t), some (.str r), some (.ref tl), x6, none] ∧ Ex G G' ∧ Wt w (c + 801 + 10 * j) G' H' ∧ G' tl = some (.lst (xs.map V.str)) ∧ (∀ x ∈ xs, Stp n x) ∧ xs.length ≤ 80 + j ∧ xs ≠ []) ?_ ?_ ?_
    · exact ⟨G3, xs, none, rfl, e3, W4, htl, hxs, by omega, xne⟩
    · rintro j σ H' hj ⟨G', xs, x6, rfl, e, W, hst, hxs, lx, xne⟩
      have hj3 : j < 3 := by omega
      have hstH := W.e _ _ hst
      refine ⟨_, rfl, .inl ⟨rfl, _, SqL.of hstH⟩, ⟨_, rfl⟩, _, rfl, n, rfl, by omega, by omega, fun D npD => ?_⟩
      rw [Int.toNat_natCast]
      refine lc_letters (K := K) (z := "abcez") W (by omega) (by omega) npD (fun i4 x c4 G8 H8 Y e8 hc4 W8 hy => ?_) (fun G9 H9 l e9 W9 hl hlm hD => ?_)
      · exact ⟨rfl, lc_yes ⟨_, rfl, w, .str "abcez", ("abcez" : Str).length, c4, G8, rfl, by decide +kernel, by decide +kernel, hc4, W8, .inl ⟨"abcez", rfl, rfl, hy⟩⟩⟩
      · refine ⟨"", D, l.map one1, rfl, rfl, .inl (SqL.of (W9.e _ _ hD)), ?_, ?_⟩
        · rw [lens_ones1, hl]
          have : ("" : Str).length = 0 := by decide +kernel
          rw [this]
          omega
        rw [join_ones1]
        have hst2 : Stp n (tx l) := ⟨fun ch hch => word_lit ("abcez" : Str) (by decide +kernel) ch (hlm ch hch), hl⟩
        generalize tx l = one at hst2
        have hstG := e9 _ _ hst
        refine ⟨tl, _, _, rfl, rfl, W9.e _ _ hstG, sz_lt (by rw [List.length_map]; omega), upd G9 tl (.lst (xs.map V.str ++ [.str one])), xs ++ [one], _, rfl, Ex.mut (e.trans e9) gtl, (W9.mut hstG).up (by omega), by rw [upd_same, List.map_append]; rfl, ?_, ?_, by simp⟩
        · exact fun x hx => (List.mem_append.mp hx).elim (hxs x) fun h => by rw [List.mem_singleton.mp h]; exact hst2
        · rw [List.length_append]
          have : [one].length = 1 := rfl
          omega
    · rintro σ H5 ⟨G5, xs, x6, rfl, e5, W5, hst, hxs, lx, xne⟩
      have W5 := W5.up (show c + 801 + 10 * (tn : Int).toNat ≤ c + 831 by omega)
      have dl := ded_le xs
      refine ⟨_, rfl, tl, xs, rfl, SqL.of (W5.e _ _ hst), by omega, fun p np => ⟨p, _, rfl, upd_same, fun wl nwl => ?_⟩⟩
      have W6 := W5.new (o := SetH P wd p (ded xs)) np
      have W7 := W6.new (o := .lst ((sortS (ded xs)).map V.str)) nwl
      have e7 : Ex G (upd (upd G5 p (SetH P wd p (ded xs))) wl (.lst ((sortS (ded xs)).map V.str))) := (e5.trans (Ex.new (W5.free np))).trans (Ex.new (W6.free nwl))
      have hw7 : (upd (upd G5 p (SetH P wd p (ded xs))) wl (.lst ((sortS (ded xs)).map V.str))) wl = some (.lst ((sortS (ded xs)).map V.str)) := upd_same
      have gwl : G wl = none := fresh_back (e5.trans (Ex.new (o := SetH P wd p (ded xs)) (W5.free np))) (W6.free nwl)
      have asc0 : Asc (sortS (ded xs)) := sortS_asc (ded_nd _)
      have stp0 : ∀ x ∈ sortS (ded xs), Stp n x := fun x hx => hxs x (ded_mem.mp (sortS_mem.mp hx))
      have ne0 : sortS (ded xs) ≠ [] := by
        intro h
        have h1 : (sortS (ded xs)).length = 0 := by rw [h]; rfl
        rw [sortS_len] at h1
        obtain ⟨x, hx⟩ := List.exists_mem_of_ne_nil _ xne
        have h3 := ded_mem.mpr hx
        rw [List.length_eq_zero_iff.mp h1] at h3
        cases h3
      have le0 : (sortS (ded xs)).length ≤ 100 := by rw [sortS_len]; omega
      generalize upd (upd G5 p (SetH P wd p (ded xs))) wl (.lst ((sortS (ded xs)).map V.str)) = G7 at W7 e7 hw7
      generalize sortS (ded xs) = ws0 at W7 hw7 asc0 stp0 ne0 le0
      refine ⟨_, rfl, w, 3, c + 831, G7, rfl, by omega, by omega, by omega, W7, fun tm H8 htm W8 => ⟨tm, rfl, by omega, by omega, ?_⟩⟩
      refine fo_rng (fun j σ H' => ∃ (G' : Hp) (ws : List Str) (x6 : Option V), σ = [some (.ref w), some (.int most), some (.int n), some (.ref wl), some (.str r), some (.ref tl), x6, none] ∧ Ex G G' ∧ Wt w (c + 832 + j) G' H' ∧ G' wl = some (.lst (ws.map V.str)) ∧ Asc ws ∧ (∀ x ∈ ws, Stp n x) ∧ ws ≠ [] ∧ ws.length ≤ 100) ?_ ?_ ?_
      · exact ⟨G7, ws0, _, rfl, e7, W8, hw7, asc0, stp0, ne0, le0⟩
      · rintro j σ H' hj ⟨G', ws, x6, rfl, e, W, hw, ha, hs, hne, hle⟩
        have hwH := W.e _ _ hw
        have lm : (ws.map V.str).length = ws.length := List.length_map ..
        refine ⟨_, rfl, wl, _, rfl, .inl (SqL.of hwH), _, _, rfl, rfl, _, rfl, ?_⟩
        by_cases h1 : (1 : Int) < ((ws.map V.str).length : Int)
        · rw [decide_eq_true h1]
          refine iteT ⟨_, rfl, .inl ⟨rfl, _, SqL.of hwH⟩, _, rfl, _, rfl, wl, _, rfl, .inl (SqL.of hwH), w, (ws.map V.str).length, _, G', rfl, by omega, by omega, by omega, W, fun i H2 hi W2 => ⟨wl, _, i, i, _, rfl, rfl, W2.e _ _ hw, by omega, by omega, ?_, List.getElem?_eq_getElem hi, ?_⟩⟩
          · exact seqIx (by omega)
          · refine ⟨upd G' wl (.lst ((ws.map V.str).eraseIdx i)), ws.eraseIdx i, _, rfl, Ex.mut e gwl, (W2.mut hw).up (by omega), by rw [upd_same, map_eraseIdx], List.Pairwise.sublist (List.eraseIdx_sublist _ _) ha, fun x hx => hs x (List.mem_of_mem_eraseIdx hx), ?_, ?_⟩
            · intro h
              have h2 : (ws.eraseIdx i).length = 0 := by rw [h]; rfl
              rw [List.length_eraseIdx] at h2
              split at h2 <;> omega
            · have := List.length_eraseIdx_le ws i
              omega
        · rw [decide_eq_false h1]
          exact iteF ⟨G', ws, _, rfl, e, W.up (by omega), hw, ha, hs, hne, hle⟩
      · rintro σ H9 ⟨G9, ws, x6, rfl, e9, W9, hw, ha, hs, hne, hle⟩
        refine ⟨_, rfl, _, rfl, _, rfl, _, rfl, wl, _, rfl, SqL.of (W9.e _ _ hw), fun cl ncl => ⟨cl, _, rfl, .inl ⟨SqL.of upd_same, fun l nl => ⟨s2, fun b2 nb => ?_⟩⟩⟩⟩
        have hcut : cutV (ws.map V.str) none (some (most : Int)) = (ws.take most).map V.str := by rw [cutV_to, List.map_take]
        have W10 := W9.new (o := .lst (cutV (ws.map V.str) none (some (most : Int)))) ncl
        have W11 := W10.new (o := .tup (cutV (ws.map V.str) none (some (most : Int)))) nl
        have W12 := W11.new (o := .tup [.int n, .ref l]) nb
        have x12 := Ex.new (o := .tup [.int (n : Int), .ref l]) (W11.free nb)
        have tk : (ws.take most).length ≤ 40 := by rw [List.length_take]; omega
        refine q b2 n (ws.take most) _ _ (((e9.trans (Ex.new (W9.free ncl))).trans (Ex.new (W10.free nl))).trans x12) (W12.up (by omega)) (bookDp (SqT.of upd_same) (SqT.of (x12 _ _ (by rw [upd_same, hcut])))) ⟨hn2, hn6, ⟨fun x hx => hs x (List.mem_of_mem_take hx), List.Pairwise.sublist (List.take_sublist _ _) ha⟩, ?_, by omega⟩ tk
        intro h
        have h1 : (ws.take most).length = 0 := by rw [h]; rfl
        rw [List.length_take] at h1
        have : 0 < ws.length := List.length_pos_iff.mpr hne
        omega
def sp_law_wide (K : PySem.W.Frag) : Sp := fun vs H Q _ => ∃ (w : Addr) (c : Nat) (G : Hp), vs = [.ref w] ∧ c ≤ 30000 ∧ Wt w c G H ∧
  ∀ (b : Addr) (n : Nat) (ws : List Str) G' H', Ex G G' → Wt w (c + 2100) G' H' → Dp K G' (.ref b) (bookD n ws) → Bk n ws → ws.length ≤ 40 → Q (.ref b) H'
theorem ok_law_wide (T : Tx K mg) : Ok P wd K mg base CX0 6 "_law_wide" ["well"] (sp_law_wide K) := by
  refine T.d_law_wide.ok sc_law_wide (fun vs H Q E h => ?_) (fun f cdv A outer s H vs Q E hG hr h => ?_)
  · obtain ⟨w, c, G, rfl, _⟩ := h
    rfl
  · obtain ⟨w, c, G, rfl, hc, W, q⟩ := h
    refine ⟨_, (pss_cons (ps_set (i := 1) sc_law_wide.nd rfl (Or.inl rfl) (pe_callO (ok_law_pick T) hG (hr.mono (by decide)) (pa_cons (pv 0) (pa_cons (pe_lst (pa_cons pe_int (pa_cons pe_int (pa_cons pe_int (pa_cons pe_int pa_nil))))) pa_nil)))) (pss_one (ps_ret (pe_ifExp (pt_cmpR op_eq (pe_callO (ok_law_take T) hG (hr.mono (by decide)) (pa_cons (pv 0) (pa_cons pe_int pa_nil))) pe_int (nomark _)) (pe_ix (ix_tupK (K := K)) (pe_callO (ok_law_house T) hG (hr.mono (by decide)) (pa_cons (pv 0) (pa_cons (pv 1) pa_nil))) pe_int (fun _ _ => rfl)) (pe_callO (ok_law_web T) hG (hr.mono (by decide)) (pa_cons (pv 0) (pa_cons (pv 1) pa_nil))))))), ?_⟩
    have s4 : 4 ≤ sizeLine := sz_of (by omega)
    refine ⟨_, rfl, s4, fun p np => ⟨w, .ref p, 4, c, upd G p _, rfl, by omega, by omega, by omega, W.new np, .inr ⟨p, _, rfl, .inl (SqL.of upd_same), rfl, fun v H2 hv W2 => ?_⟩⟩⟩
    obtain ⟨ni, hni, rfl⟩ := int_mem (is := [4, 12, 40, 40]) hv
    obtain ⟨m, rfl, hm1, hm2⟩ : ∃ n : Nat, ni = (n : Int) ∧ 4 ≤ n ∧ n ≤ 40 := by
      simp only [List.mem_cons, List.mem_nil_iff, or_false] at hni
      exact ⟨ni.toNat, by omega, by omega, by omega⟩
    have W2' : Wt w (c + 1) (upd G p (.lst [.int 4, .int 12, .int 40, .int 40])) H2 := W2
    have eG2 : Ex G (upd G p (.lst [.int 4, .int 12, .int 40, .int 40])) := Ex.new (W.free np)
    clear W2
    generalize upd G p (.lst [.int 4, .int 12, .int 40, .int 40]) = G2 at W2' eG2
    refine ⟨_, rfl, w, 2, _, G2, rfl, by omega, by omega, by omega, W2', fun i H3 hi W3 => ⟨rfl, _, rfl, ?_⟩⟩
    cases decide (V.int (i : Int) = V.int 0) with
    | true => exact iteT ⟨_, rfl, _, rfl, w, m, _, G2, rfl, hm1, hm2, by omega, W3, fun T b n r G' H' e W4 hT hB h1 h2 hr hl => ⟨T, _, 0, .ref b, rfl, rfl, ex_t W4.e hT, atI_of (j := 0) rfl rfl, q b n _ G' H' (eG2.trans e) (W4.up (by omega)) hB (house_bk h1 h2 hr (by omega)) (by omega)⟩⟩
    | false => exact iteF ⟨_, rfl, _, rfl, w, m, _, G2, rfl, hm1, hm2, by omega, W3, fun b n ws G' H' e W4 hB B hl => q b n ws G' H' (eG2.trans e) (W4.up (by omega)) hB B hl⟩
end

section
variable {P : Program} {wd : World} {K : PySem.W.Frag} {mg : Str → Option Value} {base : Heap}
theorem zeros (ws : List Str) : (List.replicate ws.length [V.int 0]).flatten = cntV ws fun _ => 0 := by
  unfold cntV
  induction ws with
  | nil => rfl
  | cons p ps ih =>
    rw [List.length_cons, List.replicate_succ, List.flatten_cons, List.map_cons, ih]
    rfl
def ixv (xs : List Str) (p : Str) : V := V.int ((xs.map begS).idxOf p : Nat)
theorem path_last2 {ws xs : List Str} {s e y : Str} (h : Path ws s (xs ++ [y]) e) : y ∈ ws ∧ endS y = e := (path_snoc.mp h).2
theorem path_drop {ws : List Str} : ∀ {xs : List Str} {s e : Str} {i : Nat} {p : Str}, Path ws s xs e → (xs.map begS)[i]? = some p → Path ws p (xs.drop i) e
  | [], _, _, i, p, _, h => by simp at h
  | w :: r, s, e, 0, p, hp, h => by
    have : begS w = p := by simpa using h
    obtain ⟨h1, h2, h3⟩ := hp
    exact ⟨h1, this, h3⟩
  | w :: r, s, e, i + 1, p, ⟨_, _, h3⟩, h => path_drop (xs := r) h3 (by simpa using h)
theorem ts_twoR {t u : TS} {σ : L2.St} {H : Hp} {D : Ends} (P : L2.St → Hp → Prop) (ht : ∀ D' : Ends, D'.rt = D.rt → (∀ σ' H', P σ' H' → D'.nx σ' H') → t D' σ H) (hq : ∀ σ' H', P σ' H' → u D σ' H') : tSeq t u D σ H := ht _ rfl hq
theorem cutV_dr (xs : List V) (k : Nat) : cutV xs (some (k : Int)) none = xs.drop k := by
  unfold cutV
  have e1 : HT.sIx xs.length 0 (some (k : Int)) = min k xs.length := HT.sIx_nat _ _ _
  have e2 : HT.sIx xs.length xs.length none = xs.length := rfl
  rw [e1, e2]
  by_cases h : k ≤ xs.length
  · rw [Nat.min_eq_left h, List.take_of_length_le (by rw [List.length_drop]; omega)]
  · rw [Nat.min_eq_right (by omega), List.drop_of_length_le (Nat.le_refl _), List.drop_of_length_le (by omega), List.take_nil]
theorem cnt_acc {K : PySem.W.Frag} {H : Hp} {acc : List V} {ws : List Str} {d : Str → Nat} (ha : DpAll K H acc (ws.map fun z => PyData.int (d z : Int))) : acc = cntV ws d := by
  have := ints_dpa (ws := ws.map fun z => (d z : Int)) (vs := acc) (H := H) (K := K) (by rw [List.map_map]; exact ha)
  rw [this, List.map_map]
  rfl
theorem ixv_snoc {xs : List Str} {x z : Str} (h : z ∈ xs.map begS) : ixv (xs ++ [x]) z = ixv xs z := by
  unfold ixv
  rw [List.map_append, List.idxOf_append, if_pos h]
theorem ixv_new {xs : List Str} {x : Str} (h : begS x ∉ xs.map begS) : ixv (xs ++ [x]) (begS x) = V.int (xs.length : Nat) := by
  unfold ixv
  rw [List.map_append, List.idxOf_append, if_neg h]
  simp
theorem IsD_of {H : Hp} {a : Addr} {kvs : List (Key × V)} (h : H a = some (.dK kvs)) : IsD H a := .inl ⟨_, .inl h⟩
def sp_law_stroll (K : PySem.W.Frag) : Sp := fun vs H Q _ => ∃ (w : Addr) (v : V) (n : Nat) (ws : List Str) (c : Nat) (G : Hp), vs = [.ref w, v, .int 60] ∧ Dp K G v (bookD n ws) ∧ Bk n ws ∧ c ≤ 90000 ∧ Wt w c G H ∧
  ∀ (a : Addr) (d : Str → Nat) G' H', Ex G G' → Wt w (c + 70) G' H' → G' a = some (.lst (cntV ws d)) → Bal ws d → (ws.map d).sum ≤ 61 → Q (.ref a) H'
theorem ok_law_stroll (T : Tx K mg) : Ok P wd K mg base CX0 3 "_law_stroll" ["well", "book", "most"] (sp_law_stroll K) := by
  refine T.d_law_stroll.ok sc_law_stroll (fun vs H Q E h => ?_) (fun f cdv A outer s H vs Q E hG hr h => ?_)
  · obtain ⟨w, v, n, ws, c, G, rfl, _⟩ := h
    rfl
  · obtain ⟨w, v, n, ws, c, G, rfl, hB, B, hc, W, q⟩ := h
    refine ⟨_, (pss_cons (ps_set (i := 3) sc_law_stroll.nd rfl (Or.inl rfl) (pe_callO (ok_law_pick T) hG (hr.mono (by decide)) (pa_cons (pv 0) (pa_cons (pe_ix (ix_tupK (K := K)) (pv 1) pe_int (fun _ _ => rfl)) pa_nil)))) (pss_cons (ps_asg (pe_tup (pa_cons (pe_lst (pa_cons (pv 3) pa_nil)) (pa_cons (pe_disp (pps_cons (pe_slice sl_str (pv 3) po_none (po_some (pe_un un_neg pe_int))) pe_int pps_nil) (by rfl) (by rfl) (fun z => by cases z) (by decide)) pa_nil))) (pg_tup rfl (pgs_cons (pg_name (i := 4) sc_law_stroll.nd rfl (Or.inr rfl)) (pgs_cons (pg_name (i := 5) sc_law_stroll.nd rfl (Or.inl rfl)) pgs_nil)))) (pss_cons (ps_while PassesOwn.never (PW.pt (pw_and (pt_cmpR op_le (pe_callB (call_lenK (K := K)) (by rfl) T.b_len PySem.boot_len (pa_cons (pv 4) pa_nil)) (pv 2) (nomark _)) (pw_and1 (pt_cmp (pc_dnotin (hu_of hr) (pe_slice sl_str (pe_ix (ix_listK (K := K)) (pv 4) (pe_un un_neg pe_int) (fun _ _ => rfl)) (po_some pe_int) po_none) (pv 5)))))) (pss_cons (ps_dput (hu_of hr) (pv 5) (pe_slice sl_str (pe_ix (ix_listK (K := K)) (pv 4) (pe_un un_neg pe_int) (fun _ _ => rfl)) (po_some pe_int) po_none) (pe_callB (call_lenK (K := K)) (by rfl) T.b_len PySem.boot_len (pa_cons (pv 4) pa_nil)) rfl) (pss_cons (ps_setLc (i := 6) (own := [("window", 8)]) (g := gName 8) rfl sc_law_stroll.nd rfl rfl (sw_true rfl rfl rfl (by decide +kernel)) (pi_tupK (K := K) (pe_ix (ix_tupK (K := K)) (pv 1) pe_int (fun _ _ => rfl))) (blkOk_by (own := [("window", 8)]) (N := n_law_stroll) (sc := defScope s_law_stroll) (by decide +kernel)) (fun _ _ _ _ _ => pg_name (i := 8) sc_law_stroll.nd rfl (Or.inl rfl)) (fun _ _ _ _ _ => pts_one (pt_cmpR op_eq (pe_slice sl_str (pv 8) po_none (po_some (pe_un un_neg pe_int))) (pe_slice sl_str (pe_ix (ix_listK (K := K)) (pv 4) (pe_un un_neg pe_int) (fun _ _ => rfl)) (po_some pe_int) po_none) (nomark _))) (fun _ _ _ _ _ => (pv 8))) (pss_cons (ps_if (pt_cmpR (op_eqDK (K := K) hr.units) (pv 6) (pe_lst pa_nil) (nomark _)) (pss_one (ps_ret (pe_op op_rep (pe_lst (pa_cons pe_int pa_nil)) (pe_callB (call_lenK (K := K)) (by rfl) T.b_len PySem.boot_len (pa_cons (pe_ix (ix_tupK (K := K)) (pv 1) pe_int (fun _ _ => rfl)) pa_nil))))) pss_nil) (pss_one (ps_expr (pe_bmK (K := K) PySem.F.plainAttrs_list PySem.F.slot_list_append PySem.F.type_list_append mt_append (pv 4) (pa_cons (pe_callO (ok_law_pick T) hG (hr.mono (by decide)) (pa_cons (pv 0) (pa_cons (pv 6) pa_nil))) pa_nil)))))))) (pss_cons (ps_set (i := 7) sc_law_stroll.nd rfl (Or.inr rfl) (pe_slice (sl_listK (K := K)) (pv 4) (po_some (pe_get2 (hu_of hr) (pv 5) (pe_slice sl_str (pe_ix (ix_listK (K := K)) (pv 4) (pe_un un_neg pe_int) (fun _ _ => rfl)) (po_some pe_int) po_none) (pe_callB (call_lenK (K := K)) (by rfl) T.b_len PySem.boot_len (pa_cons (pv 4) pa_nil)))) po_none)) (pss_one (ps_ret (pe_lc (own := [("window", 8)]) (g := gName 8) (tt := tYes) rfl sc_law_stroll.nd (pi_tupK (K := K) (pe_ix (ix_tupK (K := K)) (pv 1) pe_int (fun _ _ => rfl))) (blkOk_by (own := [("window", 8)]) (N := n_law_stroll) (sc := defScope s_law_stroll) (by decide +kernel)) (fun _ _ _ _ _ => pg_name (i := 8) sc_law_stroll.nd rfl (Or.inl rfl)) (fun _ _ _ _ _ => pts_nil) (fun _ _ _ _ _ => (pe_bmK (K := K) PySem.F.plainAttrs_list PySem.F.slot_list_count PySem.F.type_list_count (mt_lcountS (K := K)) (pv 7) (pa_cons (pv 8) pa_nil)))))))))), ?_⟩
    obtain ⟨a, t, rfl, h1, h2⟩ := dp_book hB
    have few := B.few
    have hi6 := B.hi
    have nd : ws.Nodup := asc_nodup B.win.2
    have lm : (ws.map V.str).length = ws.length := List.length_map ..
    have s1 : 1 ≤ sizeLine := sz_of (by omega)
    have s2 : 2 ≤ sizeLine := sz_of (by omega)
    have wl : ∀ x ∈ ws, x.length ≤ 6 := fun x hx => by have := (B.win.1 x hx).2; omega
    have wpos : 1 ≤ ws.length := List.length_pos_iff.mpr B.ne
    refine ⟨_, rfl, _, rfl, _, _, _, _, rfl, rfl, ex_t W.e h1, atI_of (j := 1) rfl rfl, w, .ref t, ws.length, c, G, rfl, wpos, by omega, by omega, W, .inr ⟨t, _, rfl, .inr h2, lm, fun v H1 hv W1 => ?_⟩⟩
    obtain ⟨x0, hx0, rfl⟩ := str_mem (is := ws) hv
    refine ⟨_, rfl, s1, fun ST nST M nM => ⟨_, rfl, 1, rfl, _, rfl, x0, rfl, sz_of (by have := wl x0 hx0; omega), ?_⟩⟩
    rw [show cutS x0 none (some (-1)) = begS x0 from cut_beg x0]
    refine ⟨upd_same, [(kS (begS x0), .int 0)], rfl, by show 1 ≤ 15; decide, s2, fun T0 nT => ⟨T0, _, rfl, SqT.of upd_same, rfl, _, _, rfl, _, _, rfl, rfl, ?_⟩⟩
    have W2 := (W1.new (o := .lst [.str x0]) nST).new (o := .dK []) nM
    have gST := W1.free nST
    have gM : (upd G ST (.lst [.str x0])) M = none := (W1.new (o := .lst [.str x0]) nST).free nM
    have gM0 : G M = none := fresh_back (Ex.new (o := .lst [.str x0]) gST) gM
    have MS : M ≠ ST := fun z => by
      rw [z, upd_same] at gM
      cases gM
    have W3 := W2.mut (o' := .dK (mergeK [] [(kS (begS x0), V.int 0)])) (show (upd (upd G ST (.lst [.str x0])) M (.dK [])) M = some (.dK []) from upd_same)
    have W4 := W3.new (o := .tup [.ref ST, .ref M]) nT
    have gT := W3.free nT
    have e4 : Ex G (upd (upd (upd (upd G ST (.lst [.str x0])) M (.dK [])) M (.dK (mergeK [] [(kS (begS x0), V.int 0)]))) T0 (.tup [.ref ST, .ref M])) := (Ex.mut ((Ex.new gST).trans (Ex.new gM)) gM0).trans (Ex.new gT)
    have hST : (upd (upd (upd (upd G ST (.lst [.str x0])) M (.dK [])) M (.dK (mergeK [] [(kS (begS x0), V.int 0)]))) T0 (.tup [.ref ST, .ref M])) ST = some (.lst (([x0] : List Str).map V.str)) := Ex.new gT _ _ (by rw [upd_upd, upd_ne MS.symm, upd_same]; rfl)
    have hM : (upd (upd (upd (upd G ST (.lst [.str x0])) M (.dK [])) M (.dK (mergeK [] [(kS (begS x0), V.int 0)]))) T0 (.tup [.ref ST, .ref M])) M = some (.dK (fkv (ixv [x0]) (([x0] : List Str).map begS))) := Ex.new gT _ _ (by
      rw [upd_same]
      have : ixv [x0] (begS x0) = V.int 0 := by
        unfold ixv
        simp
      show some (HO.dK [(kS (begS x0), V.int 0)]) = some (HO.dK [(kS (begS x0), ixv [x0] (begS x0))])
      rw [this])
    generalize upd (upd (upd (upd G ST (.lst [.str x0])) M (.dK [])) M (.dK (mergeK [] [(kS (begS x0), V.int 0)]))) T0 (.tup [.ref ST, .ref M]) = G4 at W4 e4 hST hM
    generalize upd (upd (upd (upd H1 ST (.lst [.str x0])) M (.dK [])) M (.dK (mergeK [] [(kS (begS x0), V.int 0)]))) T0 (.tup [.ref ST, .ref M]) = H4 at W4
    refine ts_twoR (t := tWhile _ _) (fun σ H' => ∃ (G' : Hp) (xs : List Str) (y : Str) (x6 : Option V), σ = [some (.ref w), some (.ref a), some (.int 60), some (.str x0), some (.ref ST), some (.ref M), x6, none, none] ∧ Ex G G' ∧ Wt w (c + 63) G' H' ∧ G' ST = some (.lst ((xs ++ [y]).map V.str)) ∧ G' M = some (.dK (fkv (ixv (xs ++ [y])) ((xs ++ [y]).map begS))) ∧
      Path ws (begS x0) (xs ++ [y]) (endS y) ∧ (xs ++ [y]).length ≤ 61) (fun D' rtD hD' => ?_) ?_
    · refine ⟨fun m σ H' => ∃ (G' : Hp) (xs : List Str) (y : Str) (x6 : Option V), σ = [some (.ref w), some (.ref a), some (.int 60), some (.str x0), some (.ref ST), some (.ref M), x6, none, none] ∧ Ex G G' ∧ Wt w (c + 1 + (xs ++ [y]).length) G' H' ∧ G' ST = some (.lst ((xs ++ [y]).map V.str)) ∧ G' M = some (.dK (fkv (ixv (xs ++ [y])) ((xs ++ [y]).map begS))) ∧
        Path ws (begS x0) (xs ++ [y]) (endS y) ∧ (xs ++ [y]).length ≤ 61 ∧ m = 62 - (xs ++ [y]).length, ⟨_, G4, [], x0, none, rfl, e4, W4.up (by omega), hST, hM, ⟨hx0, rfl, rfl⟩, by show 1 ≤ 61; omega, rfl⟩, ?_⟩
      rintro m σ H5 ⟨G5, xs, y, x6, rfl, e5, W5, hS, hMd, hp, hl, rfl⟩
      have hSH := W5.e _ _ hS
      have hMH := W5.e _ _ hMd
      have yw := (path_last2 hp).1
      have szy : y.length ≤ sizeLine := sz_of (by have := wl y yw; omega)
      have xl : (xs ++ [y]).length = xs.length + 1 := by rw [List.length_append]; rfl
      refine ⟨_, rfl, ST, _, rfl, .inl (SqL.of hSH), _, rfl, _, _, rfl, rfl, _, rfl, ?_⟩
      rw [List.length_map]
      have done : Wt w (c + 63) G5 H5 := W5.up (by omega)
      by_cases h60 : ((xs ++ [y]).length : Int) ≤ 60
      · rw [decide_eq_true h60]
        refine ⟨_, rfl, 1, rfl, ST, _, -1, .str y, rfl, rfl, SqL.of hSH, by rw [List.map_append]; exact atI_lastV, 1, rfl, y, rfl, szy, ?_⟩
        rw [cut_end]
        refine ⟨_, rfl, M, _, rfl, DGet.k (k := kS (endS y)) hMH, _, rfl, ?_⟩
        rw [show (!(valV (fkv (ixv (xs ++ [y])) ((xs ++ [y]).map begS)) (kS (endS y))).isSome) = !decide (endS y ∈ (xs ++ [y]).map begS) by rw [fkv_in]]
        by_cases hin : endS y ∈ (xs ++ [y]).map begS
        · rw [decide_eq_true hin]
          exact hD' _ _ ⟨G5, xs, y, x6, rfl, e5, done, hS, hMd, hp, hl⟩
        rw [decide_eq_false hin]
        refine iteT ⟨fun σ' H' => ∃ (G' : Hp) (xs' : List Str) (y' : Str) (x6 : Option V), σ' = [some (.ref w), some (.ref a), some (.int 60), some (.str x0), some (.ref ST), some (.ref M), x6, none, none] ∧ Ex G G' ∧ Wt w (c + 1 + (xs' ++ [y']).length) G' H' ∧ G' ST = some (.lst ((xs' ++ [y']).map V.str)) ∧ G' M = some (.dK (fkv (ixv (xs' ++ [y'])) ((xs' ++ [y']).map begS))) ∧
          Path ws (begS x0) (xs' ++ [y']) (endS y') ∧ (xs' ++ [y']).length ≤ 61 ∧ 62 - (xs' ++ [y']).length < 62 - (xs ++ [y]).length, fun σ' H' ⟨G', xs', y', x6, g1, g2, g3, g4, g5, g6, g7, g8⟩ => ⟨_, g8, G', xs', y', x6, g1, g2, g3, g4, g5, g6, g7, rfl⟩, ?_⟩
        refine ⟨_, rfl, ST, _, rfl, .inl (SqL.of hSH), _, rfl, _, rfl, 1, rfl, ST, _, -1, .str y, rfl, rfl, SqL.of hSH, by rw [List.map_append]; exact atI_lastV, 1, rfl, y, rfl, szy, ?_⟩
        rw [cut_end, List.length_map]
        refine ⟨M, _, rfl, DPut.k (k := kS (endS y)) hMH (sz_lt (by rw [fkv_len, List.length_map]; omega)), ?_⟩
        have W6 := W5.mut (o' := .dK (putK (fkv (ixv (xs ++ [y])) ((xs ++ [y]).map begS)) (kS (endS y)) (V.int ((xs ++ [y]).length : Int)))) hMd
        have hS6 : (upd G5 M (.dK (putK (fkv (ixv (xs ++ [y])) ((xs ++ [y]).map begS)) (kS (endS y)) (V.int ((xs ++ [y]).length : Int))))) ST = some (.lst ((xs ++ [y]).map V.str)) := by rw [upd_ne MS.symm]; exact hS
        have hM6 : (upd G5 M (.dK (putK (fkv (ixv (xs ++ [y])) ((xs ++ [y]).map begS)) (kS (endS y)) (V.int ((xs ++ [y]).length : Int))))) M = some (.dK (putK (fkv (ixv (xs ++ [y])) ((xs ++ [y]).map begS)) (kS (endS y)) (V.int ((xs ++ [y]).length : Int)))) := upd_same
        have e6 : Ex G (upd G5 M (.dK (putK (fkv (ixv (xs ++ [y])) ((xs ++ [y]).map begS)) (kS (endS y)) (V.int ((xs ++ [y]).length : Int))))) := Ex.mut e5 gM0
        generalize upd G5 M (.dK (putK (fkv (ixv (xs ++ [y])) ((xs ++ [y]).map begS)) (kS (endS y)) (V.int ((xs ++ [y]).length : Int)))) = G6 at W6 hS6 hM6 e6
        generalize upd H5 M (.dK (putK (fkv (ixv (xs ++ [y])) ((xs ++ [y]).map begS)) (kS (endS y)) (V.int ((xs ++ [y]).length : Int)))) = H6 at W6
        have h1' := ex_t W6.e (ex_t e6 h1)
        have h2' := ex_t W6.e (ex_t e6 h2)
        refine ⟨_, rfl, _, _, _, _, rfl, rfl, h1', atI_of (j := 1) rfl rfl, t, rfl, ⟨_, h2'⟩, fun D nD => ?_⟩
        refine lcs_tp h2' (fun z => decide (begS z = endS y)) PyData.str nD (by omega) (fun _ _ => rfl) (fun z H7 Y Z hz e7 hy hn => ?_) (fun H7 acc e7 hD ha => ?_)
        · have h7 := e7 _ _ (W6.e _ _ hS6)
          refine ⟨rfl, _, rfl, 1, rfl, _, rfl, z, rfl, sz_of (by have := wl z hz; omega), ?_⟩
          rw [show cutS z none (some (-1)) = begS z from cut_beg z]
          refine ⟨_, rfl, 1, rfl, ST, _, -1, .str y, rfl, rfl, SqL.of h7, by rw [List.map_append]; exact atI_lastV, 1, rfl, y, rfl, szy, ?_⟩
          rw [cut_end]
          refine ⟨rfl, _, rfl, ?_⟩
          by_cases hbe : begS z = endS y
          · rw [decide_eq_true (show V.str (begS z) = V.str (endS y) by rw [hbe])]
            exact iteT ⟨_, rfl, hy (decide_eq_true hbe) _ _ (Ex.refl _) (.str z)⟩
          · rw [decide_eq_false (show ¬ V.str (begS z) = V.str (endS y) from fun q => hbe (V.str.inj q))]
            exact iteF (hn (decide_eq_false hbe) _ (Ex.refl _))
        have ha := strs_dpa ha
        subst ha
        obtain ⟨G7, e7', W7, hD7, _⟩ := W6.newt e7 nD hD
        have hS7 := e7' _ _ hS6
        have hM7 := e7' _ _ hM6
        have owd : ∀ x ∈ ws.filter (fun z => decide (begS z = endS y)), Word x := fun x hx => (B.win.1 x (List.mem_filter.mp hx).1).1
        refine ⟨_, rfl, sz_of (by show 0 ≤ 1000000; decide), fun np nnp => ⟨_, .list [], dpL (SqL.of (Ex.new nnp _ _ hD)), .lst (SqL.of upd_same) .nil, shapedL owd, rfl, _, rfl, ?_⟩⟩
        have W8 := W7.new (o := .lst []) nnp
        have e8 : Ex G7 (upd G7 np (.lst [])) := Ex.new (W7.free nnp)
        have hS8 := e8 _ _ hS7
        have hM8 := e8 _ _ hM7
        have hD8 := e8 _ _ hD7
        generalize upd G7 np (.lst []) = G8 at W8 e8 hS8 hM8 hD8
        generalize upd H7 np (.lst []) = H8 at W8
        have e08 := (e6.trans e7').trans e8
        cases how : ws.filter (fun z => decide (begS z = endS y)) with
        | nil =>
          have h1e := ex_t W8.e (ex_t e08 h1)
          have h2e := ex_t W8.e (ex_t e08 h2)
          refine iteT ⟨s1, fun l nl => ⟨_, rfl, _, _, _, _, rfl, rfl, ex_t (Ex.new nl) h1e, atI_of (j := 1) rfl rfl, t, _, rfl, .inr (ex_t (Ex.new nl) h2e), l, _, [.int 0], rfl, rfl, upd_same, by omega, by omega, by rw [Int.toNat_natCast, lm]; exact sz_of (by show 1 * _ ≤ _; omega), fun F nF => ?_⟩⟩
          show D'.rt _ _
          rw [rtD, Int.toNat_natCast, lm, zeros]
          have W9 := W8.new (o := .lst [.int 0]) nl
          have W10 := W9.new (o := .lst (cntV ws fun _ => 0)) nF
          refine q F (fun _ => 0) _ _ ((e08.trans (Ex.new (W8.free nl))).trans (Ex.new (W9.free nF))) (W10.up (by omega)) upd_same Bal.zero ?_
          have : ∀ l : List Str, (l.map fun _ => 0).sum = 0 := fun l => by
            induction l with
            | nil => rfl
            | cons x l ih => rw [List.map_cons, List.sum_cons, ih]
          rw [this]
          omega
        | cons o0 os =>
          have fl : (ws.filter (fun z => decide (begS z = endS y))).length ≤ ws.length := List.length_filter_le ..
          have f1 : 1 ≤ (ws.filter (fun z => decide (begS z = endS y))).length := by rw [how, List.length_cons]; omega
          refine iteF ⟨_, rfl, .inl ⟨rfl, _, SqL.of (W8.e _ _ hS8)⟩, _, rfl, _, rfl, w, .ref D, _, _, _, rfl, f1, by omega, by omega, W8, .inr ⟨D, _, rfl, .inl (SqL.of hD8), List.length_map .., fun v H9 hv W9 => ?_⟩⟩
          obtain ⟨x, hx, rfl⟩ := str_mem (is := ws.filter (fun z => decide (begS z = endS y))) hv
          obtain ⟨xw, xb⟩ := List.mem_filter.mp hx
          have xb := of_decide_eq_true xb
          refine ⟨ST, _, _, rfl, rfl, W9.e _ _ hS8, sz_lt (by rw [List.length_map]; omega), upd G8 ST (.lst ((xs ++ [y]).map V.str ++ [.str x])), xs ++ [y], x, _, rfl, Ex.mut e08 gST, (W9.mut hS8).up (by rw [List.length_append (as := xs ++ [y])]; exact Nat.le_of_eq (Nat.add_assoc _ _ _)), by rw [upd_same, List.map_append (l₁ := xs ++ [y])]; rfl, ?_, path_snoc.mpr ⟨by rw [xb]; exact hp, xw, rfl⟩, ?_, ?_⟩
          · rw [upd_ne MS, hM8, fkv_put, addS, if_neg hin, List.map_append (l₁ := xs ++ [y])]
            congr 2
            rw [show ([x] : List Str).map begS = [endS y] by rw [← xb]; rfl]
            refine fkv_congr fun z hz => ?_
            by_cases hze : z = endS y
            · rw [if_pos hze, hze, ← xb, ixv_new (by rw [xb]; exact hin)]
            · rw [if_neg hze]
              refine (ixv_snoc ?_).symm
              rcases List.mem_append.mp hz with h | h
              · exact h
              · exact absurd (List.mem_singleton.mp h) hze
          · rw [List.length_append (as := xs ++ [y])]
            show _ + 1 ≤ 61
            omega
          · rw [List.length_append (as := xs ++ [y])]
            show 62 - (_ + 1) < _
            omega
      · rw [decide_eq_false h60]
        exact hD' _ _ ⟨G5, xs, y, x6, rfl, e5, done, hS, hMd, hp, hl⟩
    · rintro σ H5 ⟨G5, xs, y, x6, rfl, e5, W5, hS, hMd, hp, hl⟩
      have hSH := W5.e _ _ hS
      have hMH := W5.e _ _ hMd
      have yw := (path_last2 hp).1
      have szy : y.length ≤ sizeLine := sz_of (by have := wl y yw; omega)
      refine ⟨_, rfl, _, rfl, M, rfl, IsD_of hMH, _, rfl, 1, rfl, ST, _, -1, .str y, rfl, rfl, SqL.of hSH, by rw [List.map_append]; exact atI_lastV, 1, rfl, y, rfl, szy, ?_⟩
      rw [cut_end]
      refine ⟨_, rfl, ST, _, rfl, .inl (SqL.of hSH), _, DGet.k (k := kS (endS y)) hMH, ?_⟩
      rw [List.length_map]
      obtain ⟨k, hk, hbal⟩ : ∃ k : Nat, (valV (fkv (ixv (xs ++ [y])) ((xs ++ [y]).map begS)) (kS (endS y))).getD (V.int ((xs ++ [y]).length : Int)) = V.int (k : Int) ∧ Bal ws (((xs ++ [y]).drop k).count ·) := by
        by_cases hin : endS y ∈ (xs ++ [y]).map begS
        · rw [fkv_val hin]
          refine ⟨((xs ++ [y]).map begS).idxOf (endS y), rfl, cl_bal nd (path_drop hp ?_)⟩
          rw [List.getElem?_eq_getElem (List.idxOf_lt_length_iff.mpr hin), List.getElem_idxOf]
        · rw [fkv_none hin]
          refine ⟨(xs ++ [y]).length, rfl, ?_⟩
          rw [List.drop_length]
          exact cl_bal nd (r := []) (s := endS y) rfl
      rw [hk]
      refine ⟨_, rfl, ST, _, rfl, SqL.of hSH, fun LP nLP => ?_⟩
      rw [cutV_dr, ← List.map_drop]
      have W6 := W5.new (o := .lst (((xs ++ [y]).drop k).map V.str)) nLP
      have hLP : (upd G5 LP (.lst (((xs ++ [y]).drop k).map V.str))) LP = some (.lst (((xs ++ [y]).drop k).map V.str)) := upd_same
      have e6 : Ex G (upd G5 LP (.lst (((xs ++ [y]).drop k).map V.str))) := e5.trans (Ex.new (W5.free nLP))
      generalize upd G5 LP (.lst (((xs ++ [y]).drop k).map V.str)) = G6 at W6 hLP e6
      generalize upd H5 LP (.lst (((xs ++ [y]).drop k).map V.str)) = H6 at W6
      have eG6 := e6
      refine ⟨_, rfl, _, _, _, _, rfl, rfl, ex_t W6.e (ex_t e6 h1), atI_of (j := 1) rfl rfl, t, rfl, ⟨_, ex_t W6.e (ex_t e6 h2)⟩, fun D nD => ?_⟩
      refine lcs_tp (ex_t W6.e (ex_t e6 h2)) (fun _ => true) (fun z => .int ((((xs ++ [y]).drop k).count z : Nat) : Int)) nD (by omega) (fun _ _ => rfl) (fun z H7 Y Z hz e7 hy hn => ?_) (fun H7 acc e7 hD ha => ?_)
      · have h7 := e7 _ _ (W6.e _ _ hLP)
        exact ⟨rfl, lc_yes ⟨_, rfl, .inl ⟨rfl, _, SqL.of h7⟩, _, rfl, LP, (xs ++ [y]).drop k, z, rfl, rfl, SqL.of h7, hy rfl _ _ (Ex.refl _) (.int _)⟩⟩
      · rw [filter_true] at ha
        have ha := cnt_acc ha
        subst ha
        obtain ⟨G7, e7', W7, hD7, _⟩ := W6.newt e7 nD hD
        refine q D (((xs ++ [y]).drop k).count ·) G7 H7 (e6.trans e7') (W7.up (by omega)) hD7 hbal ?_
        rw [← len_counts nd fun x hx => path_in hp x (List.mem_of_mem_drop hx), List.length_drop]
        omega
end

section
variable {P : Program} {wd : World} {K : PySem.W.Frag} {mg : Str → Option Value} {base : Heap}
structure Fl2 (L : List Str) (sc : Str → List Str) (s : Str) (Hb H : Hp) (M R : Addr) (op : Str → Prop) (ks wl : List Str) : Prop where
  e : Ex Hb H
  m : Hb M = none
  r : Hb R = none
  hM : H M = some (.dK (trues ks))
  hR : H R = some (.lst (wl.map V.str))
  S : Srch sc s ks wl op
  n : wl.Nodup
  sub : ∀ q ∈ ks, q ∈ L
section
variable {L ks wl : List Str} {sc : Str → List Str} {s p q r : Str} {Hb H H' : Hp} {M R : Addr} {op : Str → Prop}
theorem Fl2.ne (f : Fl2 L sc s Hb H M R op ks wl) : M ≠ R := ne_of f.hM f.hR fun z => nomatch z
theorem Fl2.keepR (f : Fl2 L sc s Hb H M R op ks wl) {o : HO} : (upd H M o) R = some (.lst (wl.map V.str)) := by
  rw [upd_ne f.ne.symm]
  exact f.hR
theorem Fl2.ex (f : Fl2 L sc s Hb H M R op ks wl) (e : Ex H H') : Fl2 L sc s Hb H' M R op ks wl := ⟨f.e.trans e, f.m, f.r, e _ _ f.hM, e _ _ f.hR, f.S, f.n, f.sub⟩
theorem Fl2.pop (f : Fl2 L sc s Hb H M R (fun _ => False) ks (wl ++ [q])) : Fl2 L sc s Hb (upd H R (.lst (wl.map V.str))) M R (fun z => z = q) ks wl :=
  ⟨Ex.mut f.e f.r, f.m, f.r, by rw [upd_ne f.ne]; exact f.hM, upd_same, f.S.pop, (List.nodup_append.mp f.n).1, f.sub⟩
theorem Fl2.put (f : Fl2 L sc s Hb H M R (fun z => z = q) ks wl) (hq : q ∈ ks) (hr : r ∈ sc q) (hn : r ∉ ks) (hl : r ∈ L) :
    Fl2 L sc s Hb (upd (upd H M (.dK (putK (trues ks) (kS r) (.bl true)))) R (.lst (wl.map V.str ++ [.str r]))) M R (fun z => z = q) (ks ++ [r]) (wl ++ [r]) :=
  ⟨Ex.mut (Ex.mut f.e f.m) f.r, f.m, f.r, by rw [upd_ne f.ne, upd_same, trues_put hn], by rw [upd_same, List.map_append]; rfl, f.S.put hq hr hn, List.nodup_append.mpr ⟨f.n, nodup_one r, fun a ha b hb (e : a = b) => hn (by rw [← List.mem_singleton.mp hb, ← e]; exact f.S.sub a ha)⟩, fun x hx => (List.mem_append.mp hx).elim (f.sub x) fun h => by rw [List.mem_singleton.mp h]; exact hl⟩
theorem Fl2.shut (f : Fl2 L sc s Hb H M R (fun z => z = q) ks wl) (h : ∀ r ∈ sc q, r ∈ ks) : Fl2 L sc s Hb H M R (fun _ => False) ks wl := ⟨f.e, f.m, f.r, f.hM, f.hR, f.S.shut h, f.n, f.sub⟩
end
def flm2 (L ks wl : List Str) : Nat := 2 * (L.length - ks.length) + wl.length
def scW (L : List Str) (i : Nat) : Str → List Str := if i = 0 then nbF L else nbB L
theorem full_of {ks L : List Str} (nd : ks.Nodup) (s : ∀ q ∈ ks, q ∈ L) (h : ¬ ks.length < L.length) : ∀ x ∈ L, x ∈ ks := fun x hx => by
  by_cases hk : x ∈ ks
  · exact hk
  · have := nodup_len (l := L) (List.nodup_cons.mpr ⟨hk, nd⟩) fun y hy => (List.mem_cons.mp hy).elim (fun e => by rw [e]; exact hx) (s y)
    rw [List.length_cons] at this
    omega
def RetGood (ws : List Str) (c : Str → Nat) (H : Hp) (Q : VK) : Prop := (Good ws c → ∀ H', Ex H H' → Q (.bl true) H') ∧ (¬ Good ws c → ∀ H', Ex H H' → Q (.bl false) H')
def sp_law_together (K : PySem.W.Frag) : Sp := fun vs H Q _ => ∃ (v : V) (n : Nat) (b : Addr) (ws : List Str) (c : Str → Nat), vs = [v, .ref b] ∧ Dp K H v (bookD n ws) ∧ SqT K H b (cntV ws c) ∧ Bk n ws ∧ Bal ws c ∧ RetGood ws c H Q
theorem ok_law_together (T : Tx K mg) : Ok P wd K mg base CX0 1 "_law_together" ["book", "counts"] (sp_law_together K) := by
  refine T.d_law_together.ok sc_law_together (fun vs H Q E h => ?_) (fun f cdv A outer s H vs Q E hG hr h => ?_)
  · obtain ⟨v, n, b, ws, c, rfl, _⟩ := h
    rfl
  · obtain ⟨v, n, b, ws, c, rfl, hB, hc, B, hbal, q1, q2⟩ := h
    refine ⟨_, (pss_cons (ps_setLc (i := 3) (own := [("window", 2), ("count", 9)]) (g := gTup K 2 (gCons (gName 2) (gCons (gName 9) gNil))) rfl sc_law_together.nd rfl rfl (sw_true rfl rfl rfl (by decide +kernel)) (pi_zq (K := K) T.b_zip (pa_cons (pe_ix (ix_tupK (K := K)) (pv 0) pe_int (fun _ _ => rfl)) (pa_cons (pv 1) pa_nil))) (blkOk_by (own := [("window", 2), ("count", 9)]) (N := n_law_together) (sc := defScope s_law_together) (by decide +kernel)) (fun _ _ _ _ _ => (pg_tup rfl (pgs_cons (pg_name (i := 2) sc_law_together.nd rfl (Or.inl rfl)) (pgs_cons (pg_name (i := 9) sc_law_together.nd rfl (Or.inl rfl)) pgs_nil)))) (fun _ _ _ _ _ => pts_one (pt_cmpR op_gt (pv 9) pe_int (nomark _))) (fun _ _ _ _ _ => (pv 2))) (pss_cons (ps_for PassesOwn.never rfl (pi_tupK (K := K) (pe_tup (pa_cons pe_int (pa_cons pe_int pa_nil)))) (pg_name (i := 4) sc_law_together.nd rfl (Or.inl rfl)) (pss_cons (ps_par (i := 5) (j := 6) rfl sc_law_together.nd rfl rfl (by decide) rfl rfl (pa_cons (pe_slice (sl_listK (K := K)) (pv 3) po_none (po_some pe_int)) (pa_cons (pe_callTy (call_dictPK (K := K) rfl) (by rfl) T.b_dict (by decide +kernel) (pa_cons (pe_lc (own := [("window", 2)]) (g := gName 2) (tt := tYes) rfl sc_law_together.nd (pi_listK (K := K) (pe_slice (sl_listK (K := K)) (pv 3) po_none (po_some pe_int))) (blkOk_by (own := [("window", 2)]) (N := n_law_together) (sc := defScope s_law_together) (by decide +kernel)) (fun _ _ _ _ _ => pg_name (i := 2) sc_law_together.nd rfl (Or.inl rfl)) (fun _ _ _ _ _ => pts_nil) (fun _ _ _ _ _ => (pe_tup (pa_cons (pv 2) (pa_cons pe_bl pa_nil))))) pa_nil)) pa_nil)) (by rfl)) (pss_cons (ps_while PassesOwn.never (pt_cmpR (op_neDK (K := K) hr.units) (pv 5) (pe_lst pa_nil) (nomark _)) (pss_cons (ps_set (i := 7) sc_law_together.nd rfl (Or.inl rfl) (pe_bm0K (K := K) PySem.F.plainAttrs_list PySem.F.slot_list_pop PySem.F.type_list_pop mt_pop (pv 5))) (pss_one (ps_for PassesOwn.never rfl (pi_listK (K := K) (pv 3)) (pg_name (i := 2) sc_law_together.nd rfl (Or.inl rfl)) (pss_cons (ps_set (i := 8) sc_law_together.nd rfl (Or.inl rfl) (pe_ifExp (pt_cmpR op_eq (pv 4) pe_int (nomark _)) (pe_cmpR op_eq (pe_slice sl_str (pv 2) po_none (po_some (pe_un un_neg pe_int))) (pe_slice sl_str (pv 7) (po_some pe_int) po_none) (nomark _)) (pe_cmpR op_eq (pe_slice sl_str (pv 2) (po_some pe_int) po_none) (pe_slice sl_str (pv 7) po_none (po_some (pe_un un_neg pe_int))) (nomark _)))) (pss_one (ps_if (PW.pt (pw_and (pt_val (pv 8)) (pw_and1 (pt_cmp (pc_dnotin (hu_of hr) (pv 2) (pv 6)))))) (pss_cons (ps_dput (hu_of hr) (pv 6) (pv 2) pe_bl rfl) (pss_one (ps_expr (pe_bmK (K := K) PySem.F.plainAttrs_list PySem.F.slot_list_append PySem.F.type_list_append mt_append (pv 5) (pa_cons (pv 2) pa_nil))))) pss_nil))))))) (pss_one (ps_if (pt_cmpR op_lt (pe_callB call_lenD (by rfl) T.b_len PySem.boot_len (pa_cons (pv 6) pa_nil)) (pe_callB (call_lenK (K := K)) (by rfl) T.b_len PySem.boot_len (pa_cons (pv 3) pa_nil)) (nomark _)) (pss_one (ps_ret pe_bl)) pss_nil))))) (pss_one (ps_ret (pe_cmpR (op_neDK (K := K) hr.units) (pv 3) (pe_lst pa_nil) (nomark _)))))), ?_⟩
    obtain ⟨a, t, rfl, h1, h2⟩ := dp_book hB
    have few := B.few
    have hi6 := B.hi
    have nd : ws.Nodup := asc_nodup B.win.2
    have lm : (ws.map V.str).length = ws.length := List.length_map ..
    have s1 : 1 ≤ sizeLine := sz_of (by omega)
    have s2 : 2 ≤ sizeLine := sz_of (by omega)
    refine ⟨_, rfl, _, _, _, _, rfl, rfl, h1, atI_of (j := 1) rfl rfl, _, rfl, false, false, t, b, ws.map V.str, cntV ws c, rfl, h2, hc, fun h nh => ?_⟩
    have S := src_zq (b1 := false) (b2 := false) h2 hc
    rw [lm, cntV_len, Nat.min_self] at S
    refine lc_src (K := K) S (by omega) (fun i => decide (0 < c (atS ws i))) (fun i => .str (atS ws i)) (fun _ _ => rfl) nh (fun i x H2 Y Z hi e it hy hn => ?_) (fun H2 acc e hD ha => ?_)
    · obtain ⟨T', u, y, rfl, hT, hu, hy2⟩ := it
      obtain ⟨z, hz, rfl⟩ := str_at hu
      obtain ⟨z', hz', rfl⟩ := cntV_at hy2
      rw [hz] at hz'
      cases hz'
      rw [atS_of hz] at hy hn
      refine ⟨T', _, rfl, SqT.of hT, rfl, _, _, rfl, _, _, rfl, rfl, rfl, _, rfl, _, _, rfl, rfl, _, rfl, ?_⟩
      by_cases h0 : 0 < c z
      · rw [show decide ((0 : Int) < (c z : Int)) = true from decide_eq_true (by omega)]
        exact iteT ⟨_, rfl, hy (decide_eq_true h0) _ _ (Ex.refl _) (.str z)⟩
      · rw [show decide ((0 : Int) < (c z : Int)) = false from decide_eq_false (by omega)]
        exact iteF (hn (decide_eq_false h0) _ (Ex.refl _))
    rw [givenS ws (fun z => decide (0 < c z)) PyData.str] at ha
    have ha := strs_dpa ha
    subst ha
    have hh : H2 h = some (.lst ((heldL ws c).map V.str)) := hD
    clear hD
    have Lw : ∀ x ∈ heldL ws c, x ∈ ws := fun x hx => (held_mem.mp hx).1
    have Ll : (heldL ws c).length ≤ ws.length := List.length_filter_le ..
    have Lnd : (heldL ws c).Nodup := nd.filter _
    have Lword : ∀ x ∈ heldL ws c, Word x := fun x hx => (B.win.1 x (Lw x hx)).1
    have Llen : ∀ x ∈ heldL ws c, x.length ≤ sizeLine := fun x hx => by have := (B.win.1 x (Lw x hx)).2; exact sz_of (by omega)
    have hg : Good ws c ↔ heldL ws c ≠ [] ∧ Hang (heldL ws c) := ⟨fun g => ⟨g.1, g.2.2⟩, fun g => ⟨g.1, hbal, g.2⟩⟩
    have htog : ∀ w0 ∈ heldL ws c, ((∀ x ∈ heldL ws c, Rch (nbF (heldL ws c)) w0 x) ∧ ∀ x ∈ heldL ws c, Rch (nbB (heldL ws c)) w0 x) ↔ Hang (heldL ws c) := fun w0 hw0 => tog_iff hw0 hbal.begs
    generalize heldL ws c = L at *
    refine ⟨s2, fun p np => ⟨p, rfl, ?_⟩⟩
    have ep : Ex H (upd H2 p (.tup [.int 0, .int 1])) := e.trans (Ex.new np)
    have hhp : (upd H2 p (.tup [.int 0, .int 1])) h = some (.lst (L.map V.str)) := Ex.new np _ _ hh
    refine fo_tp (Hb := upd H2 p (.tup [.int 0, .int 1])) (xs := [.int 0, .int 1]) (SqT.of upd_same) (fun i σ H' => ∃ x2 x4 x5 x6 x7 x8, σ = [some (.ref a), some (.ref b), x2, some (.ref h), x4, x5, x6, x7, x8, none] ∧ Ex (upd H2 p (.tup [.int 0, .int 1])) H' ∧ ∀ j, j < i → ∀ w0 ∈ L, L.take 1 = [w0] → ∀ x ∈ L, Rch (scW L j) w0 x) ?_ ?_ ?_ ?_
    · exact ⟨none, none, none, none, none, none, rfl, Ex.refl _, fun j hj => absurd hj (by omega)⟩
    · exact fun i σ H' ⟨_, _, _, _, _, _, _, e, _⟩ => e
    · rintro i x σ H3 hi ⟨x2, x4, x5, x6, x7, x8, rfl, e3, hall⟩
      obtain ⟨hx, hi2⟩ : x = V.int (i : Int) ∧ i < 2 := by
        match i, hi with
        | 0, hi => cases hi; exact ⟨rfl, by omega⟩
        | 1, hi => cases hi; exact ⟨rfl, by omega⟩
        | i + 2, hi => simp at hi
      subst hx
      have hh3 := e3 _ _ hhp
      have hcut : cutV (L.map V.str) none (some (1 : Int)) = (L.take 1).map V.str := by rw [show (1 : Int) = ((1 : Nat) : Int) from rfl, cutV_to, List.map_take]
      have t1 : (L.take 1).length ≤ 1 := by rw [List.length_take]; omega
      have t1nd : (L.take 1).Nodup := (List.take_sublist _ _).nodup Lnd
      refine ⟨_, rfl, 1, rfl, h, _, rfl, SqL.of hh3, fun R nR => ?_⟩
      rw [hcut]
      have hR4 : (upd H3 R (.lst ((L.take 1).map V.str))) R = some (.lst ((L.take 1).map V.str)) := upd_same
      have e34 : Ex H3 (upd H3 R (.lst ((L.take 1).map V.str))) := Ex.new nR
      generalize upd H3 R (.lst ((L.take 1).map V.str)) = H4 at hR4 e34
      refine ⟨_, rfl, 1, rfl, h, _, rfl, SqL.of (e34 _ _ hh3), fun R2 nR2 => ?_⟩
      rw [hcut]
      refine ⟨R2, rfl, ⟨_, SqL.of upd_same⟩, fun D nD => ?_⟩
      refine lcs_lst (K := K) (ws := L.take 1) (SqL.of upd_same) (fun _ => true) (fun z => .tuple [.str z, .bool true]) nD (by omega) (fun _ _ => rfl) (fun z H5 Y Z hz e5 hy hn => ?_) (fun H5 acc e5 hD ha => ?_)
      · exact ⟨rfl, lc_yes ⟨_, rfl, s2, fun p np => hy rfl _ _ (Ex.new np) (.tup (SqT.of upd_same) (.cons (.str _) (.cons (.bl _) .nil)))⟩⟩
      rw [filter_true] at ha
      obtain ⟨ps, rfl, hps⟩ := dpa_pairs (F := fun _ => V.bl true) (Fd := fun _ => .bool true) (fun z v h => by cases h; rfl) ha
      refine ⟨D, ps, _, rfl, SqL.of hD, hps, fun M nM => ?_⟩
      rw [merge_fkv t1nd]
      have e35 : Ex H3 H5 := (e34.trans (Ex.new nR2)).trans e5
      have hR6 : (upd H5 M (.dK (fkv (fun _ => V.bl true) (L.take 1)))) R = some (.lst ((L.take 1).map V.str)) := Ex.new nM _ _ (e5 _ _ (Ex.new nR2 _ _ hR4))
      have hM6 : (upd H5 M (.dK (fkv (fun _ => V.bl true) (L.take 1)))) M = some (.dK (trues (L.take 1))) := upd_same
      have e36 : Ex H3 (upd H5 M (.dK (fkv (fun _ => V.bl true) (L.take 1)))) := e35.trans (Ex.new nM)
      have nM3 : H3 M = none := fresh_back e35 nM
      generalize upd H5 M (.dK (fkv (fun _ => V.bl true) (L.take 1))) = H6 at hR6 hM6 e36
      clear hps hD ha
      refine ⟨_, _, rfl, ?_⟩
      refine ⟨fun m σ H' => ∃ x2 x7 x8 ks wl, σ = [some (.ref a), some (.ref b), x2, some (.ref h), some (.int (i : Int)), some (.ref R), some (.ref M), x7, x8, none] ∧ m = flm2 L ks wl ∧ Ex H3 H' ∧ H' M = some (.dK (trues ks)) ∧ H' R = some (.lst (wl.map V.str)) ∧ ((L = [] ∧ ks = [] ∧ wl = []) ∨ ∃ w0, L.take 1 = [w0] ∧ Fl2 L (scW L i) w0 H3 H' M R (fun _ => False) ks wl),
        ⟨_, x2, x7, x8, L.take 1, L.take 1, rfl, rfl, e36, hM6, hR6, ?_⟩, ?_⟩
      · cases L with
        | nil => exact .inl ⟨rfl, rfl, rfl⟩
        | cons w0 L' =>
          refine .inr ⟨w0, rfl, e36, nM3, nR, hM6, hR6, Srch.start, nodup_one w0, fun q hq => ?_⟩
          rw [List.mem_singleton.mp hq]
          exact List.mem_cons_self ..
      rintro m σ H7 ⟨x2, x7, x8, ks, wl, rfl, rfl, e7, hM7, hR7, hst⟩
      have wlL : ∀ z ∈ wl, z ∈ L := fun z hz => by
        rcases hst with ⟨_, _, rfl⟩ | ⟨w0, _, F⟩
        · exact absurd hz List.not_mem_nil
        · exact F.sub _ (F.S.sub z hz)
      refine ⟨_, rfl, sz_of (by show 0 ≤ 1000000; decide), fun np nnp => ⟨strsL wl, .list [], dpL (SqL.of ((Ex.new nnp) _ _ hR7)), .lst (SqL.of upd_same) .nil, shapedL (fun z hz => Lword z (wlL z hz)), rfl, _, rfl, ?_⟩⟩
      have en : Ex H7 (upd H7 np (.lst [])) := Ex.new nnp
      rcases snoc_cases wl with rfl | ⟨wl', pp, rfl⟩
      · refine iteF ?_
        have hM8 := en _ _ hM7
        have hh8 := (e7.trans en) _ _ hh3
        refine ⟨_, rfl, M, _, rfl, hM8, _, rfl, h, _, rfl, .inl (SqL.of hh8), _, _, rfl, rfl, _, rfl, ?_⟩
        rw [trues_len, List.length_map]
        have e28 := (e3.trans e7).trans en
        by_cases hlt : ks.length < L.length
        · rw [show decide ((ks.length : Int) < (L.length : Int)) = true from decide_eq_true (by omega)]
          refine iteT (q2 (fun g => ?_) _ (ep.trans e28))
          obtain ⟨g1, g2⟩ := hg.mp g
          rcases hst with ⟨hn, _⟩ | ⟨w0, hw0, F⟩
          · exact g1 hn
          · have w0L : w0 ∈ L := List.mem_of_mem_take (by rw [hw0]; exact List.mem_singleton.mpr rfl)
            obtain ⟨r1, r2⟩ := (htog w0 w0L).mpr g2
            have all : ∀ x ∈ L, x ∈ ks := fun x hx => (F.S.done x).mpr (by
              unfold scW
              by_cases hi0 : i = 0
              · rw [if_pos hi0]
                exact r1 x hx
              · rw [if_neg hi0]
                exact r2 x hx)
            have := nodup_len Lnd all
            omega
        · rw [show decide ((ks.length : Int) < (L.length : Int)) = false from decide_eq_false (by omega)]
          refine iteF ⟨_, _, _, _, _, _, rfl, e28, fun j hj w0 hw0 hw1 x hx => ?_⟩
          by_cases hji : j < i
          · exact hall j hji w0 hw0 hw1 x hx
          · obtain rfl : j = i := by omega
            rcases hst with ⟨hn, _⟩ | ⟨w1, hw1', F⟩
            · rw [hn] at hx
              exact absurd hx List.not_mem_nil
            · rw [hw1] at hw1'
              cases hw1'
              exact (F.S.done x).mp (full_of F.S.nd F.sub hlt x hx)
      · rw [ne_nilS]
        obtain ⟨w0, hw0, F⟩ : ∃ w0, L.take 1 = [w0] ∧ Fl2 L (scW L i) w0 H3 H7 M R (fun _ => False) ks (wl' ++ [pp]) := by
          rcases hst with ⟨_, _, hn⟩ | h
          · simp at hn
          · exact h
        have F := F.ex en
        refine iteT ⟨fun σ' H' => ∃ x2 x7 x8 ks' wl2, σ' = [some (.ref a), some (.ref b), x2, some (.ref h), some (.int (i : Int)), some (.ref R), some (.ref M), x7, x8, none] ∧ flm2 L ks' wl2 < flm2 L ks (wl' ++ [pp]) ∧ Fl2 L (scW L i) w0 H3 H' M R (fun _ => False) ks' wl2,
          fun σ' H' ⟨x2, x7, x8, ks', wl2, g1, g2, g3⟩ => ⟨_, g2, x2, x7, x8, ks', wl2, g1, rfl, g3.e, g3.hM, g3.hR, .inr ⟨w0, hw0, g3⟩⟩, ?_⟩
        have ppk : pp ∈ ks := F.S.sub _ (List.mem_append_right _ (List.mem_singleton.mpr rfl))
        have ppL : pp ∈ L := F.sub _ ppk
        refine ⟨_, rfl, .inl ⟨rfl, _, SqL.of F.hR⟩, _, _, .str pp, rfl, rfl, F.hR, last_at, ?_⟩
        rw [drop_last]
        have F := F.pop
        refine ⟨_, rfl, h, rfl, fo_lst (Hb := H3) (SqL.of hh3) (fun j σ H' => ∃ x2 x8 ks' wl2, σ = [some (.ref a), some (.ref b), x2, some (.ref h), some (.int (i : Int)), some (.ref R), some (.ref M), some (.str pp), x8, none] ∧ Fl2 L (scW L i) w0 H3 H' M R (fun z => z = pp) ks' wl2 ∧ flm2 L ks' wl2 < flm2 L ks (wl' ++ [pp]) ∧ pp ∈ ks' ∧ ∀ x ∈ L.take j, x ∈ scW L i pp → x ∈ ks') ?_ ?_ ?_ ?_⟩
        · refine ⟨_, _, ks, wl', rfl, F, ?_, ppk, fun x hx => absurd hx List.not_mem_nil⟩
          unfold flm2
          rw [List.length_append]
          have : [pp].length = 1 := rfl
          omega
        · exact fun j σ H' ⟨_, _, _, _, _, F, _⟩ => F.e
        · rintro j x σ H8 hj ⟨x2, x8, ks', wl2, rfl, F, hlt, hpp, hin⟩
          obtain ⟨z, hz, rfl⟩ := str_at hj
          have zL := List.mem_of_getElem? hz
          refine gName_go2 ?_
          dsimp only
          refine asg_split (fun v H' => v = .bl (decide (z ∈ scW L i pp)) ∧ H' = H8) (fun Rk hR => ?_) ?_
          · refine ⟨_, rfl, rfl, _, rfl, ?_⟩
            by_cases hi0 : i = 0
            · subst hi0
              rw [decide_eq_true (show V.int ((0 : Nat) : Int) = V.int 0 from rfl)]
              refine iteT ⟨_, rfl, 1, rfl, _, rfl, z, rfl, Llen z zL, ?_⟩
              rw [show cutS z none (some (-1)) = begS z from cut_beg z]
              refine ⟨_, rfl, 1, rfl, pp, rfl, Llen pp ppL, ?_⟩
              rw [cut_end]
              refine ⟨rfl, hR _ _ ⟨?_, rfl⟩⟩
              congr 1
              refine decide_eq_decide.mpr ?_
              unfold scW
              rw [if_pos rfl, nbF_mem]
              exact ⟨fun q => ⟨zL, V.str.inj q⟩, fun q => by rw [q.2]⟩
            · rw [decide_eq_false (fun q => hi0 (by have q := V.int.inj q; omega))]
              refine iteF ⟨_, rfl, 1, rfl, z, rfl, Llen z zL, ?_⟩
              rw [cut_end]
              refine ⟨_, rfl, 1, rfl, _, rfl, pp, rfl, Llen pp ppL, ?_⟩
              rw [show cutS pp none (some (-1)) = begS pp from cut_beg pp]
              refine ⟨rfl, hR _ _ ⟨?_, rfl⟩⟩
              congr 1
              refine decide_eq_decide.mpr ?_
              unfold scW
              rw [if_neg hi0, nbB_mem]
              exact ⟨fun q => ⟨zL, V.str.inj q⟩, fun q => by rw [q.2]⟩
          rintro v H' ⟨rfl, rfl⟩
          refine ⟨_, rfl, _, rfl, ?_⟩
          have hin2 : ∀ ks2 : List Str, (∀ x ∈ ks', x ∈ ks2) → (z ∈ scW L i pp → z ∈ ks2) → ∀ x ∈ L.take (j + 1), x ∈ scW L i pp → x ∈ ks2 := fun ks2 h1 h2 x hx hs => by
            rw [take_snoc hz] at hx
            rcases List.mem_append.mp hx with hx | hx
            · exact h1 x (hin x hx hs)
            · rw [List.mem_singleton.mp hx] at hs ⊢
              exact h2 hs
          by_cases hnear : z ∈ scW L i pp
          · rw [decide_eq_true hnear]
            refine ⟨_, rfl, _, rfl, M, _, rfl, DGet.k (k := kS z) F.hM, _, rfl, ?_⟩
            by_cases hk : z ∈ ks'
            · rw [show (!(valV (trues ks') (kS z)).isSome) = false by rw [trues_in, decide_eq_true hk]; rfl]
              exact iteF ⟨_, _, ks', wl2, rfl, F, hlt, hpp, hin2 ks' (fun _ h => h) fun _ => hk⟩
            · rw [show (!(valV (trues ks') (kS z)).isSome) = true by rw [trues_in, decide_eq_false hk]; rfl]
              have kl := nodup_len F.S.nd F.sub
              have F2 := F.put hpp hnear hk zL
              have kl2 := nodup_len F2.S.nd F2.sub
              have wl2l := nodup_len F.n F.S.sub
              refine iteT ⟨_, rfl, _, rfl, M, _, rfl, DPut.k (k := kS z) F.hM (sz_lt (by rw [trues_len]; omega)), ?_⟩
              have hR9 := F.keepR (o := .dK (putK (trues ks') (kS z) (.bl true)))
              refine ⟨_, rfl, .inl ⟨rfl, _, SqL.of hR9⟩, _, rfl, R, _, _, rfl, rfl, hR9, sz_lt (by rw [List.length_map]; omega), _, _, ks' ++ [z], wl2 ++ [z], rfl, F2, ?_, List.mem_append_left _ hpp, hin2 _ (fun x hx => List.mem_append_left _ hx) fun _ => List.mem_append_right _ (List.mem_singleton.mpr rfl)⟩
              have : flm2 L (ks' ++ [z]) (wl2 ++ [z]) < flm2 L ks' wl2 := by
                unfold flm2
                rw [List.length_append, List.length_append] at *
                have : [z].length = 1 := rfl
                omega
              omega
          · rw [decide_eq_false hnear]
            exact iteF ⟨_, _, ks', wl2, rfl, F, hlt, hpp, hin2 ks' (fun _ h => h) fun q => absurd q hnear⟩
        · rintro σ H8 ⟨x2, x8, ks', wl2, rfl, F, hlt, hpp, hin⟩
          refine ⟨_, _, _, ks', wl2, rfl, hlt, F.shut fun r hr => hin r ?_ hr⟩
          rw [List.length_map, List.take_length]
          unfold scW at hr
          by_cases hi0 : i = 0
          · rw [if_pos hi0] at hr
            exact (nbF_mem.mp hr).1
          · rw [if_neg hi0] at hr
            exact (nbB_mem.mp hr).1
    · rintro σ H3 ⟨x2, x4, x5, x6, x7, x8, rfl, e3, hall⟩
      have hh3 := e3 _ _ hhp
      refine ⟨_, rfl, sz_of (by show 0 ≤ 1000000; decide), fun np nnp => ⟨strsL L, .list [], dpL (SqL.of ((Ex.new nnp) _ _ hh3)), .lst (SqL.of upd_same) .nil, shapedL Lword, rfl, ?_⟩⟩
      have en : Ex H (upd H3 np (.lst [])) := (ep.trans e3).trans (Ex.new nnp)
      cases L with
      | nil => exact q2 (fun g => (hg.mp g).1 rfl) _ en
      | cons w0 L' =>
        have w0L : w0 ∈ w0 :: L' := List.mem_cons_self ..
        refine q1 (hg.mpr ⟨List.cons_ne_nil _ _, (htog w0 w0L).mp ⟨fun x hx => hall 0 (by show 0 < 2; omega) w0 w0L rfl x hx, fun x hx => hall 1 (by show 1 < 2; omega) w0 w0L rfl x hx⟩⟩) _ en
end

section
variable {P : Program} {wd : World} {K : PySem.W.Frag} {mg : Str → Option Value} {base : Heap}
theorem layC (ws : List Str) (c : Str → Nat) : PyData.canLayAll0 (ws.map fun x => PyData.int (c x : Int)) = true := by
  induction ws with
  | nil => rfl
  | cons x ws ih =>
    show (PyData.canLay0 (.int (c x : Int)) && PyData.canLayAll0 (ws.map fun x => PyData.int (c x : Int))) = true
    rw [ih, Bool.and_true]
    first | rfl | simp [PyData.canLay0]
theorem depthC (ws : List Str) (c : Str → Nat) : PyData.depthAll (ws.map fun x => PyData.int (c x : Int)) = 0 := by
  induction ws with
  | nil => rfl
  | cons x ws ih =>
    rw [List.map_cons]
    show max (PyData.depth (.int (c x : Int))) (PyData.depthAll (ws.map fun x => PyData.int (c x : Int))) = 0
    rw [ih]
    rfl
theorem shapedC (ws : List Str) (c : Str → Nat) : SeqAt.shaped (cntD ws c) = true := by
  show (PyData.canLayAll0 (ws.map fun x => PyData.int (c x : Int)) && decide (PyData.depthAll (ws.map fun x => PyData.int (c x : Int)) + 1 ≤ 64)) = true
  rw [layC, depthC]
  rfl
theorem eqvC (ws : List Str) (c : Str → Nat) : PyData.eqv (cntD ws c) (cntD ws c) = true := PySem.SeqAt.eqv_refl _ (layC ws c)
theorem cntD_congr {ws : List Str} {c d : Str → Nat} (h : ∀ x ∈ ws, c x = d x) : cntD ws c = cntD ws d := by
  unfold cntD
  rw [List.map_congr_left fun x hx => by rw [h x hx]]
def sp_law_right (K : PySem.W.Frag) : Sp := fun vs H Q _ => ∃ (v : V) (n : Nat) (b : Addr) (k : Bool) (ws : List Str) (c : Str → Nat), vs = [v, .ref b, .bl k] ∧ Dp K H v (bookD n ws) ∧ SqT K H b (cntV ws c) ∧ Bk n ws ∧ Bal ws c ∧ (Good ws c → (ws.map c).sum ≤ 10000) ∧ RetD K (.bool true) H Q
theorem ok_law_right (T : Tx K mg) : Ok P wd K mg base CX0 9 "_law_right" ["book", "counts", "named"] (sp_law_right K) := by
  refine T.d_law_right.ok sc_law_right (fun vs H Q E h => ?_) (fun f cdv A outer s H vs Q E hG hr h => ?_)
  · obtain ⟨v, n, b, k, ws, c, rfl, _⟩ := h
    rfl
  · obtain ⟨v, n, b, k, ws, c, rfl, hB, hc, B, hbal, hsum, q⟩ := h
    refine ⟨_, (pss_cons (ps_if (pt_not (pt_val (pe_callO (ok_law_together T) hG (hr.mono (by decide)) (pa_cons (pv 0) (pa_cons (pv 1) pa_nil))))) (pss_one (ps_ret (pe_and (pe_cmpR op_isN (pe_callO (ok_law_told T) hG (hr.mono (by decide)) (pa_cons (pv 0) (pa_cons (pv 1) (pa_cons (pv 2) pa_nil)))) pe_non (nomark _)) (pe_one (pe_cmpR op_is_bl (pe_callO (ok_balance T) hG (hr.mono (by decide)) (pa_cons (pv 0) (pa_cons (pv 1) pa_nil))) pe_bl (nomark _)))))) pss_nil) (pss_cons (ps_set (i := 3) sc_law_right.nd rfl (Or.inr rfl) (pe_callTy (call_dictPK (K := K) rfl) (by rfl) T.b_dict (by decide +kernel) (pa_cons (pe_lc (own := [("window", 6)]) (g := gName 6) (tt := tYes) rfl sc_law_right.nd (pi_tupK (K := K) (pe_ix (ix_tupK (K := K)) (pv 0) pe_int (fun _ _ => rfl))) (blkOk_by (own := [("window", 6)]) (N := n_law_right) (sc := defScope s_law_right) (by decide +kernel)) (fun _ _ _ _ _ => pg_name (i := 6) sc_law_right.nd rfl (Or.inl rfl)) (fun _ _ _ _ _ => pts_nil) (fun _ _ _ _ _ => (pe_tup (pa_cons (pv 6) (pa_cons pe_bl pa_nil))))) pa_nil))) (pss_cons (ps_for PassesOwn.never rfl (pi_tupK (K := K) (pe_tup (pa_cons (pv 2) (pa_cons (pe_not (pv 2)) pa_nil)))) (pg_name (i := 4) sc_law_right.nd rfl (Or.inl rfl)) (pss_cons (ps_set (i := 5) sc_law_right.nd rfl (Or.inl rfl) (pe_callO (ok_law_told T) hG (hr.mono (by decide)) (pa_cons (pv 0) (pa_cons (pv 1) (pa_cons (pv 4) pa_nil))))) (pss_cons (ps_if (PW.pt (pw_or (pt_not (pt_val (pe_callB (call_isiK2 (K := K)) (by rfl) T.b_isinstance (by decide +kernel) (pa_cons (pv 5) (pa_cons (pe_gty (T := "str") T.b_str (by decide +kernel)) pa_nil))))) (pw_or1 (pt_cmpR op_ne (pe_callB call_len_str (by rfl) T.b_len PySem.boot_len (pa_cons (pv 5) pa_nil)) (pe_callB (cr_sumT (K := K) rfl) (by rfl) T.b_sum (by decide +kernel) (pa_cons (pv 1) pa_nil)) (nomark _))))) (pss_one (ps_ret pe_bl)) pss_nil) (pss_cons (ps_if (pt_not (pt_val (pe_callB (cr_allK (K := K) rfl) (by rfl) T.b_all (by decide +kernel) (pa_cons (pe_lc (own := [("step", 7)]) (g := gName 7) (tt := tYes) rfl sc_law_right.nd (pi_listK (K := K) (pe_callO (ok_law_read T) hG (hr.mono (by decide)) (pa_cons (pe_ix (ix_tupK (K := K)) (pv 0) pe_int (fun _ _ => rfl)) (pa_cons (pv 5) pa_nil)))) (blkOk_by (own := [("step", 7)]) (N := n_law_right) (sc := defScope s_law_right) (by decide +kernel)) (fun _ _ _ _ _ => pg_name (i := 7) sc_law_right.nd rfl (Or.inl rfl)) (fun _ _ _ _ _ => pts_nil) (fun _ _ _ _ _ => (pe_cmp (pc_din (hu_of hr) (pv 7) (pv 3))))) pa_nil)))) (pss_one (ps_ret pe_bl)) pss_nil) (pss_one (ps_if (PW.pt (pw_or (pt_cmpR (op_neDK (K := K) hr.units) (pe_callO (ok_law_counted T) hG (hr.mono (by decide)) (pa_cons (pv 0) (pa_cons (pv 5) pa_nil))) (pv 1) (nomark _)) (pw_or1 (pt_cmpR (op_neDK (K := K) hr.units) (pe_callO (ok_counts_of T) hG (hr.mono (by decide)) (pa_cons (pv 0) (pa_cons (pv 5) pa_nil))) (pv 1) (nomark _))))) (pss_one (ps_ret pe_bl)) pss_nil)))))) (pss_one (ps_ret pe_bl))))), ?_⟩
    obtain ⟨a, t, rfl, h1, h2⟩ := dp_book hB
    have few := B.few
    have hi6 := B.hi
    have lo2 := B.lo
    have nd : ws.Nodup := asc_nodup B.win.2
    have lm : (ws.map V.str).length = ws.length := List.length_map ..
    have s2 : 2 ≤ sizeLine := sz_of (by omega)
    refine ⟨_, rfl, _, rfl, .ref a, n, b, ws, c, rfl, hB, hc, B, hbal, fun g H1 e1 => ⟨true, rfl, iteF ?_⟩, fun g H1 e1 => ⟨false, rfl, iteT ?_⟩⟩
    · obtain hsum := hsum g
      refine ⟨_, rfl, _, _, _, _, rfl, rfl, ex_t e1 h1, atI_of (j := 1) rfl rfl, t, rfl, ⟨_, ex_t e1 h2⟩, fun D1 nD1 => ?_⟩
      refine lcs_tp (ex_t e1 h2) (fun _ => true) (fun z => .tuple [.str z, .bool true]) nD1 (by omega) (fun _ _ => rfl) (fun z H3 Y Z hz e3 hy hn => ?_) (fun H3 acc e3 hD1 ha => ?_)
      · exact ⟨rfl, lc_yes ⟨_, rfl, s2, fun p np => hy rfl _ _ (Ex.new np) (.tup (SqT.of upd_same) (.cons (.str _) (.cons (.bl _) .nil)))⟩⟩
      rw [filter_true] at ha
      obtain ⟨ps, rfl, hps⟩ := dpa_pairs (F := fun _ => V.bl true) (Fd := fun _ => .bool true) (fun z v h => by cases h; rfl) ha
      refine ⟨D1, ps, _, rfl, SqL.of hD1, hps, fun M nM => ?_⟩
      rw [merge_fkv nd]
      have hM : (upd H3 M (.dK (fkv (fun _ => V.bl true) ws))) M = some (.dK (fkv (fun _ => V.bl true) ws)) := upd_same
      have e04 : Ex H (upd H3 M (.dK (fkv (fun _ => V.bl true) ws))) := (e1.trans e3).trans (Ex.new nM)
      generalize upd H3 M (.dK (fkv (fun _ => V.bl true) ws)) = H4 at hM e04
      refine ⟨_, rfl, _, rfl, k, rfl, s2, fun p np => ⟨p, rfl, ?_⟩⟩
      have hM5 := Ex.new (o := .tup [.bl k, .bl (!k)]) np _ _ hM
      have e05 : Ex H (upd H4 p (.tup [.bl k, .bl (!k)])) := e04.trans (Ex.new np)
      refine fo_tp (Hb := upd H4 p (.tup [.bl k, .bl (!k)])) (xs := [.bl k, .bl (!k)]) (SqT.of upd_same) (fun i σ H' => ∃ x4 x5, σ = [some (.ref a), some (.ref b), some (.bl k), some (.ref M), x4, x5, none, none] ∧ Ex (upd H4 p (.tup [.bl k, .bl (!k)])) H') ⟨none, none, rfl, Ex.refl _⟩ (fun i σ H' ⟨_, _, _, e⟩ => e) ?_ ?_
      · rintro i x σ H5 hi ⟨x4, x5, rfl, e5⟩
        obtain ⟨kk, rfl⟩ : ∃ kk, x = V.bl kk := by
          match i, hi with
          | 0, hi => cases hi; exact ⟨_, rfl⟩
          | 1, hi => cases hi; exact ⟨_, rfl⟩
          | i + 2, hi => simp at hi
        have e6 := e05.trans e5
        refine ⟨_, rfl, _, rfl, _, rfl, .ref a, n, b, kk, ws, c, rfl, dp_ex e6 hB, ex_t e6 hc, B, fun g2 => ⟨by omega, fun r H6 e7 hE => ?_⟩, fun ng => absurd g ng⟩
        have e8 := e6.trans e7
        have hM6 := (e5.trans e7) _ _ hM5
        have rl := hE.len nd
        have rm := hE.mem
        have rn := rnd_txt (n := n) hE.cl fun x hx => (B.win.1 x (rm x hx)).2
        have tl : (tx (txt r)).length = r.length := List.length_map ..
        have rne : 0 < r.length := List.length_pos_iff.mpr hE.cl.1
        have hcr : ∀ x ∈ ws, rndC n (tx (txt r)) x = c x := fun x hx => by
          unfold rndC
          rw [rn]
          exact hE.all x hx
        have rw1 : Word (tx (txt r)) := fun ch hch => by
          obtain ⟨x, hx, rfl⟩ := List.mem_map.mp (show ch ∈ r.map hdl from hch)
          have hw := B.win.1 x (rm x hx)
          have z0 : 0 < (sg x).length := by rw [← len_sg]; omega
          have : hdl x = (sg x)[0] := by
            unfold hdl
            rw [List.headD_eq_head?_getD, List.head?_eq_getElem?, List.getElem?_eq_getElem z0]
            rfl
          rw [this]
          exact hw.1 _ (List.getElem_mem z0)
        have rin : ∀ x ∈ rnd n (tx (txt r)), x ∈ ws := fun x hx => by
          rw [rn] at hx
          exact rm x hx
        generalize tx (txt r) = z at rn tl hcr rw1 rin
        refine ⟨_, rfl, _, _, _, _, true, rfl, .ty _, .base (.str z), kit_ty (by decide +kernel), true, rfl, iteF ?_⟩
        refine ⟨_, rfl, z, rfl, sz_of (by omega), _, rfl, b, ws.map fun x => (c x : Int), rfl, by rw [← cntV_ints]; exact ex_t e8 hc, rfl, _, rfl, ?_⟩
        rw [cnt_sum, tl, rl, decide_eq_true (rfl : V.int (((ws.map c).sum : Nat) : Int) = V.int (((ws.map c).sum : Nat) : Int))]
        refine iteF ?_
        refine ⟨_, rfl, _, _, _, _, rfl, rfl, ex_t e8 h1, atI_of (j := 0) rfl rfl, _, rfl, n, z, rfl, by omega, by omega, by omega, by omega, fun l H7 e9 nl hl => ⟨l, rfl, ⟨_, SqL.of hl⟩, fun D nD => ?_⟩⟩
        refine lcs_lst (SqL.of hl) (fun _ => true) (fun _ => .bool true) nD (by rw [rnd_len]; omega) (fun _ _ => rfl) (fun y H8 Y Z hy e10 hY hn => ?_) (fun H8 acc e10 hD ha => ?_)
        · have hM8 := (e9.trans e10) _ _ hM6
          refine ⟨rfl, lc_yes ⟨_, rfl, _, rfl, M, _, rfl, DGet.k (k := kS y) hM8, ?_⟩⟩
          rw [show (valV (fkv (fun _ => V.bl true) ws) (kS y)).isSome = true by rw [fkv_in, decide_eq_true (rin y hy)]]
          exact hY rfl _ _ (Ex.refl _) (.bl true)
        rw [filter_true] at ha
        have ha := bls_all (f := fun _ => true) ha
        subst ha
        have e18 := (e8.trans e9).trans e10
        refine ⟨_, _, rfl, SqL.of hD, _, rfl, ?_⟩
        rw [show (((rnd n z).map fun _ => true).all id) = true from List.all_eq_true.mpr fun b hb => by
          obtain ⟨_, _, rfl⟩ := List.mem_map.mp hb
          rfl]
        refine iteF ⟨_, rfl, _, rfl, .ref a, n, ws, z, rfl, dp_ex e18 hB, B, by omega, by omega, rin, fun u H9 e19 hu => ?_⟩
        rw [cntD_congr hcr] at hu
        have e09 := e18.trans e19
        refine ⟨_, rfl, _, _, hu, cnt_dp (ex_t e09 hc), shapedC ws c, shapedC ws c, _, rfl, ?_⟩
        rw [eqvC]
        refine iteF ⟨_, rfl, _, rfl, .ref a, n, ws, z, rfl, dp_ex e09 hB, B, rw1, by omega, by omega, rin, fun u2 H10 e20 hu2 => ?_⟩
        rw [cntD_congr hcr] at hu2
        refine ⟨_, rfl, _, _, hu2, cnt_dp (ex_t (e09.trans e20) hc), shapedC ws c, shapedC ws c, _, rfl, ?_⟩
        rw [eqvC]
        exact iteF ⟨_, _, rfl, ((((e5.trans e7).trans e9).trans e10).trans e19).trans e20⟩
      · rintro σ H5 ⟨x4, x5, rfl, e5⟩
        exact q _ _ (e05.trans e5) (.bl true)
    · refine ⟨_, rfl, _, rfl, _, rfl, .ref a, n, b, k, ws, c, rfl, dp_ex e1 hB, ex_t e1 hc, B, fun g2 => absurd g2 g, fun _ H2 e2 => ?_⟩
      refine ⟨rfl, _, rfl, ?_⟩
      rw [decide_eq_true (rfl : V.non = V.non)]
      refine iteT ⟨_, rfl, _, rfl, .ref a, n, b, ws, c, rfl, dp_ex (e1.trans e2) hB, ex_t (e1.trans e2) hc, B, fun u H3 e3 hu => ?_⟩
      obtain rfl := dp_bl hu
      refine ⟨_, _, rfl, rfl, ?_⟩
      rw [show balB ws c = true from balB_iff.mpr hbal]
      exact q _ _ ((e1.trans e2).trans e3) (.bl true)
end

section
variable {P : Program} {wd : World} {K : PySem.W.Frag} {mg : Str → Option Value} {base : Heap}
theorem sum_mul2 {c : Str → Nat} (m : Nat) (l : List Str) : (l.map fun x => m * c x).sum = m * (l.map c).sum := by
  induction l with
  | nil => rfl
  | cons x l ih => rw [List.map_cons, List.map_cons, List.sum_cons, List.sum_cons, ih, Nat.mul_add]
def sp_law_sum (K : PySem.W.Frag) : Sp := fun vs H Q _ => ∃ (w : Addr) (v : V) (n : Nat) (ws : List Str) (c : Nat) (G : Hp), vs = [.ref w, v] ∧ Dp K G v (bookD n ws) ∧ Bk n ws ∧ c ≤ 80000 ∧ Wt w c G H ∧
  ∀ (a : Addr) (d : Str → Nat) G' H', Ex G G' → Wt w (c + 600) G' H' → SqT K G' a (cntV ws d) → Bal ws d → (ws.map d).sum ≤ 2000 → Q (.ref a) H'
theorem ok_law_sum (T : Tx K mg) : Ok P wd K mg base CX0 4 "_law_sum" ["well", "book"] (sp_law_sum K) := by
  refine T.d_law_sum.ok sc_law_sum (fun vs H Q E h => ?_) (fun f cdv A outer s H vs Q E hG hr h => ?_)
  · obtain ⟨w, v, n, ws, c, G, rfl, _⟩ := h
    rfl
  · obtain ⟨w, v, n, ws, c, G, rfl, hB, B, hc, W, q⟩ := h
    refine ⟨_, (pss_cons (ps_set (i := 2) sc_law_sum.nd rfl (Or.inl rfl) (pe_op op_rep (pe_lst (pa_cons pe_int pa_nil)) (pe_callB (call_lenK (K := K)) (by rfl) T.b_len PySem.boot_len (pa_cons (pe_ix (ix_tupK (K := K)) (pv 1) pe_int (fun _ _ => rfl)) pa_nil)))) (pss_cons (ps_for PassesOwn.never rfl (pi_range1 (by rfl) T.b_range (pa_cons (pe_op op_add pe_int (pe_callO (ok_law_take T) hG (hr.mono (by decide)) (pa_cons (pv 0) (pa_cons pe_int pa_nil)))) pa_nil)) (pg_name (i := 3) sc_law_sum.nd rfl (Or.inl rfl)) (pss_cons (ps_set (i := 4) sc_law_sum.nd rfl (Or.inl rfl) (pe_callO (ok_law_stroll T) hG (hr.mono (by decide)) (pa_cons (pv 0) (pa_cons (pv 1) (pa_cons pe_int pa_nil))))) (pss_cons (ps_set (i := 5) sc_law_sum.nd rfl (Or.inl rfl) (pe_op op_fdivN (pe_op op_sub pe_int (pe_callB (cr_sumK (K := K) rfl) (by rfl) T.b_sum (by decide +kernel) (pa_cons (pv 2) pa_nil))) (pe_callB (call_max2 rfl) (by rfl) T.b_max (by decide +kernel) (pa_cons pe_int (pa_cons (pe_callB (cr_sumK (K := K) rfl) (by rfl) T.b_sum (by decide +kernel) (pa_cons (pv 4) pa_nil)) pa_nil))))) (pss_cons (ps_set (i := 6) sc_law_sum.nd rfl (Or.inr rfl) (pe_callB (call_min2 rfl) (by rfl) T.b_min (by decide +kernel) (pa_cons (pv 5) (pa_cons (pe_callO (ok_law_pick T) hG (hr.mono (by decide)) (pa_cons (pv 0) (pa_cons (pe_lst (pa_cons pe_int (pa_cons pe_int (pa_cons pe_int (pa_cons pe_int (pa_cons (pv 5) pa_nil)))))) pa_nil))) pa_nil)))) (pss_one (ps_setLc (i := 2) (own := [("one", 7), ("other", 8)]) (g := gTup K 2 (gCons (gName 7) (gCons (gName 8) gNil))) (tt := tYes) rfl sc_law_sum.nd rfl rfl (sw_true rfl rfl rfl (by decide +kernel)) (pi_zq (K := K) T.b_zip (pa_cons (pv 2) (pa_cons (pv 4) pa_nil))) (blkOk_by (own := [("one", 7), ("other", 8)]) (N := n_law_sum) (sc := defScope s_law_sum) (by decide +kernel)) (fun _ _ _ _ _ => (pg_tup rfl (pgs_cons (pg_name (i := 7) sc_law_sum.nd rfl (Or.inl rfl)) (pgs_cons (pg_name (i := 8) sc_law_sum.nd rfl (Or.inl rfl)) pgs_nil)))) (fun _ _ _ _ _ => pts_nil) (fun _ _ _ _ _ => (pe_op op_add (pv 7) (pe_op op_mul (pv 6) (pv 8)))))))))) (pss_one (ps_ret (pe_callTy (call_tupleK (K := K)) (by rfl) T.b_tuple (by decide +kernel) (pa_cons (pv 2) pa_nil)))))), ?_⟩
    obtain ⟨a, t, rfl, h1, h2⟩ := dp_book hB
    have few := B.few
    have nd : ws.Nodup := asc_nodup B.win.2
    have lm : (ws.map V.str).length = ws.length := List.length_map ..
    have s1 : 1 ≤ sizeLine := sz_of (by omega)
    have s5 : 5 ≤ sizeLine := sz_of (by omega)
    refine ⟨s1, fun l nl => ⟨_, rfl, _, _, _, _, rfl, rfl, ex_t (Ex.new nl) (ex_t W.e h1), atI_of (j := 1) rfl rfl, t, _, rfl, .inr (ex_t (Ex.new nl) (ex_t W.e h2)), l, _, [.int 0], rfl, rfl, upd_same, by omega, by omega, by rw [Int.toNat_natCast, lm]; exact sz_of (by show 1 * _ ≤ _; omega), fun F nF => ?_⟩⟩
    rw [Int.toNat_natCast, lm, zeros]
    have W1 := W.new (o := .lst [.int 0]) nl
    have W2 := W1.new (o := .lst (cntV ws fun _ => 0)) nF
    have e2 : Ex G (upd (upd G l (.lst [.int 0])) F (.lst (cntV ws fun _ => 0))) := (Ex.new (W.free nl)).trans (Ex.new (W1.free nF))
    have hF : (upd (upd G l (.lst [.int 0])) F (.lst (cntV ws fun _ => 0))) F = some (.lst (cntV ws fun _ => 0)) := upd_same
    generalize upd (upd G l (.lst [.int 0])) F (.lst (cntV ws fun _ => 0)) = G2 at W2 e2 hF
    generalize upd (upd H l (.lst [.int 0])) F (.lst (cntV ws fun _ => 0)) = H2 at W2
    refine ⟨_, rfl, w, 6, c, G2, rfl, by omega, by omega, by omega, W2, fun ti H3 hti W3 => ⟨1, ti, rfl, rfl, _, rfl, by omega, by omega, ?_⟩⟩
    have eti : ((1 : Int) + (ti : Int)).toNat = 1 + ti := by omega
    rw [eti]
    have z0 : (ws.map fun _ => 0).sum ≤ 2000 := by
      have : ∀ l : List Str, (l.map fun _ => 0).sum = 0 := fun l => by
        induction l with
        | nil => rfl
        | cons x l ih => rw [List.map_cons, List.sum_cons, ih]
      rw [this]
      omega
    refine fo_rng (fun j σ H' => ∃ (G' : Hp) (F : Addr) (d : Str → Nat) (x3 x4 x5 x6 : Option V), σ = [some (.ref w), some (.ref a), some (.ref F), x3, x4, x5, x6, none, none] ∧ Ex G G' ∧ Wt w (c + 1 + 80 * j) G' H' ∧ G' F = some (.lst (cntV ws d)) ∧ Bal ws d ∧ (ws.map d).sum ≤ 2000) ?_ ?_ ?_
    · exact ⟨G2, F, fun _ => 0, none, none, none, none, rfl, e2, W3, hF, Bal.zero, z0⟩
    · rintro j σ H4 hj ⟨G4, F, d, x3, x4, x5, x6, rfl, e4, W4, hF, hb, hs⟩
      refine ⟨_, rfl, _, rfl, w, .ref a, n, ws, _, G4, rfl, dp_ex e4 hB, B, by omega, W4, fun a2 d2 G5 H5 e5 W5 hA hb2 hs2 => ?_⟩
      have hF5 := W5.e _ _ (e5 _ _ hF)
      have hA5 := W5.e _ _ hA
      refine ⟨_, rfl, F, ws.map fun x => (d x : Int), rfl, SqL.of (by rw [← cntV_ints]; exact hF5), _, _, rfl, rfl, _, rfl, a2, ws.map fun x => (d2 x : Int), rfl, SqL.of (by rw [← cntV_ints]; exact hA5), _, _, rfl, ?_⟩
      rw [cnt_sum, cnt_sum]
      have emax : (if (((ws.map d2).sum : Nat) : Int) > 1 then (((ws.map d2).sum : Nat) : Int) else 1) = ((max 1 (ws.map d2).sum : Nat) : Int) := by
        by_cases h : (((ws.map d2).sum : Nat) : Int) > 1
        · rw [if_pos h]
          omega
        · rw [if_neg h]
          omega
      rw [emax]
      obtain ⟨rm, hrm, hrm2⟩ : ∃ rm : Nat, ((2000 : Int) - (((ws.map d).sum : Nat) : Int)).fdiv ((max 1 (ws.map d2).sum : Nat) : Int) = (rm : Int) ∧ rm * (max 1 (ws.map d2).sum) ≤ 2000 - (ws.map d).sum := by
        rw [Int.fdiv_eq_ediv_of_nonneg _ (by omega), show (2000 : Int) - (((ws.map d).sum : Nat) : Int) = ((2000 - (ws.map d).sum : Nat) : Int) by omega, ← Int.natCast_ediv]
        exact ⟨_, rfl, Nat.div_mul_le_self _ _⟩
      refine ⟨_, _, rfl, rfl, ⟨by omega, by omega⟩, ?_⟩
      dsimp only
      rw [hrm]
      have hrm3 : rm ≤ 2000 := by
        have : rm * 1 ≤ rm * (max 1 (ws.map d2).sum) := Nat.mul_le_mul_left _ (by omega)
        omega
      refine ⟨_, rfl, _, rfl, _, rfl, s5, fun p np => ⟨w, .ref p, 5, _, upd G5 p _, rfl, by omega, by omega, by omega, W5.new np, .inr ⟨p, _, rfl, .inl (SqL.of upd_same), rfl, fun v H6 hv W6 => ?_⟩⟩⟩
      obtain ⟨pi, hpi, rfl⟩ := int_mem (is := [1, 1, 2, 7, (rm : Int)]) hv
      obtain ⟨pn, rfl⟩ : ∃ pn : Nat, pi = (pn : Int) := by
        simp only [List.mem_cons, List.mem_nil_iff, or_false] at hpi
        exact ⟨pi.toNat, by omega⟩
      have e6 : Ex G5 (upd G5 p (.lst [.int 1, .int 1, .int 2, .int 7, .int (rm : Int)])) := Ex.new (W5.free np)
      have W6' : Wt w (c + 1 + 80 * j + 70 + 1) (upd G5 p (.lst [.int 1, .int 1, .int 2, .int 7, .int (rm : Int)])) H6 := W6
      clear W6
      generalize upd G5 p (.lst [.int 1, .int 1, .int 2, .int 7, .int (rm : Int)]) = G6 at W6' e6
      refine ⟨_, _, rfl, ?_⟩
      rw [min_nat]
      have hmr : min rm pn ≤ rm := Nat.min_le_left _ _
      generalize min rm pn = tm at hmr
      have hF6 := W6'.e _ _ (e6 _ _ (e5 _ _ hF))
      have hA6 := W6'.e _ _ (e6 _ _ hA)
      refine ⟨_, rfl, _, rfl, true, true, F, a2, cntV ws d, cntV ws d2, rfl, SqL.of hF6, SqL.of hA6, fun D nD => ?_⟩
      have S := src_zq (K := K) (b1 := true) (b2 := true) (SqL.of hF6) (SqL.of hA6)
      rw [cntV_len, cntV_len, Nat.min_self] at S
      refine lc_src (K := K) S (by omega) (fun i => true) (fun i => .int ((d (atS ws i) + tm * d2 (atS ws i) : Nat) : Int)) (fun _ _ => rfl) nD (fun i x H7 Y Z hi e7 it hy hn => ?_) (fun H7 acc e7 hD ha => ?_)
      · obtain ⟨T', u, y, rfl, hT, hu, hy2⟩ := it
        obtain ⟨z, hz, rfl⟩ := cntV_at hu
        obtain ⟨z', hz', rfl⟩ := cntV_at hy2
        rw [hz] at hz'
        cases hz'
        have hd2 : d2 z ≤ (ws.map d2).sum := sum_ge (List.mem_of_getElem? hz)
        have hy := hy rfl
        rw [atS_of hz] at hy
        refine ⟨T', _, rfl, SqT.of hT, rfl, _, _, rfl, _, _, rfl, rfl, rfl, lc_yes ⟨_, rfl, _, rfl, _, rfl, _, _, rfl, rfl, .inr ⟨by omega, by omega⟩, _, _, rfl, rfl, ?_⟩⟩
        have := hy (.int ((d z + tm * d2 z : Nat) : Int)) H7 (Ex.refl _) (.int _)
        rw [show ((d z + tm * d2 z : Nat) : Int) = (d z : Int) + (tm : Int) * (d2 z : Int) by rw [Int.natCast_add, Int.natCast_mul]] at this
        exact this
      rw [givenS ws (fun _ => true) (fun z => .int ((d z + tm * d2 z : Nat) : Int)), filter_true] at ha
      have ha := cnt_acc (d := fun z => d z + tm * d2 z) ha
      subst ha
      obtain ⟨G7, e7', W7, hD7, _⟩ := W6'.newt e7 nD hD
      refine ⟨G7, D, _, _, _, _, _, rfl, ((e4.trans e5).trans e6).trans e7', W7.up (by omega), hD7, hb.add (hb2.mul tm), ?_⟩
      rw [sum_add, sum_mul2]
      have : tm * (ws.map d2).sum ≤ rm * (max 1 (ws.map d2).sum) := Nat.mul_le_mul hmr (by omega)
      omega
    · rintro σ H4 ⟨G4, F, d, x3, x4, x5, x6, rfl, e4, W4, hF, hb, hs⟩
      refine ⟨_, rfl, F, _, rfl, .inl ⟨SqL.of (W4.e _ _ hF), fun l nl => ?_⟩⟩
      exact q l d _ _ (e4.trans (Ex.new (W4.free nl))) ((W4.new nl).up (by omega)) (SqT.of upd_same) hb hs
end

section
variable {P : Program} {wd : World} {K : PySem.W.Frag} {mg : Str → Option Value} {base : Heap}
theorem good_zero {ws : List Str} : ¬ Good ws fun _ => 0 := fun g => by
  refine g.1 ?_
  unfold heldL
  exact List.filter_eq_nil_iff.mpr fun x _ => by simp
def offC (tm : Nat) (c : Str → Nat) (x z : Str) : Nat := if z = x then tm * c x + 1 else tm * c z
theorem off_bal {ws : List Str} {c : Str → Nat} {tm : Nat} {x : Str} (nd : ws.Nodup) (hx : x ∈ ws) (hne : endS x ≠ begS x) (hb : Bal ws c) : ¬ Bal ws (offC tm c x) := fun b => by
  have e : ∀ z ∈ ws, offC tm c x z = (fun z => tm * c z + if z = x then 1 else 0) z := fun z _ => by
    unfold offC
    by_cases h : z = x
    · rw [if_pos h, h]
      simp
    · rw [if_neg h]
      simp [h]
  have h1 := b (begS x)
  unfold outC inC at h1
  rw [sumK_congr e, sumK_congr e, sumK_add (c := fun z => tm * c z) (d := fun z => if z = x then 1 else 0), sumK_add (c := fun z => tm * c z) (d := fun z => if z = x then 1 else 0), sumK_one nd hx, sumK_one nd hx, sumK_mul, sumK_mul, if_pos rfl, if_neg hne] at h1
  have h2 := hb (begS x)
  unfold outC inC at h2
  rw [h2] at h1
  omega
theorem layI (l : List Nat) : PyData.canLayAll0 (l.map fun i : Nat => PyData.int (i : Int)) = true := by
  induction l with
  | nil => rfl
  | cons x l ih =>
    show (PyData.canLay0 (.int (x : Int)) && PyData.canLayAll0 (l.map fun i : Nat => PyData.int (i : Int))) = true
    rw [ih, Bool.and_true]
    first | rfl | simp [PyData.canLay0]
theorem depthI (l : List Nat) : PyData.depthAll (l.map fun i : Nat => PyData.int (i : Int)) = 0 := by
  induction l with
  | nil => rfl
  | cons x l ih =>
    rw [List.map_cons]
    show max (PyData.depth (.int (x : Int))) (PyData.depthAll (l.map fun i : Nat => PyData.int (i : Int))) = 0
    rw [ih]
    rfl
theorem shapedI (l : List Nat) : SeqAt.shaped (.list (l.map fun i : Nat => PyData.int (i : Int))) = true := by
  show (PyData.canLayAll0 (l.map fun i : Nat => PyData.int (i : Int)) && decide (PyData.depthAll (l.map fun i : Nat => PyData.int (i : Int)) + 1 ≤ 64)) = true
  rw [layI, depthI]
  rfl
def sp_law_none_right (K : PySem.W.Frag) : Sp := fun vs H Q _ => ∃ (w : Addr) (v : V) (n : Nat) (b : Addr) (k : Bool) (ws : List Str) (c : Str → Nat) (cc : Nat) (G : Hp), vs = [.ref w, v, .ref b, .bl k] ∧ Dp K G v (bookD n ws) ∧ SqT K G b (cntV ws c) ∧ Bk n ws ∧ Bal ws c ∧ (∀ x ∈ ws, c x ≤ 100000) ∧ cc ≤ 80000 ∧ Wt w cc G H ∧
  ∀ G' H', Ex G G' → Wt w (cc + 5) G' H' → Q (.bl true) H'
theorem ok_law_none_right (T : Tx K mg) : Ok P wd K mg base CX0 9 "_law_none_right" ["well", "book", "counts", "named"] (sp_law_none_right K) := by
  refine T.d_law_none_right.ok sc_law_none_right (fun vs H Q E h => ?_) (fun f cdv A outer s H vs Q E hG hr h => ?_)
  · obtain ⟨w, v, n, b, k, ws, c, cc, G, rfl, _⟩ := h
    rfl
  · obtain ⟨w, v, n, b, k, ws, c, cc, G, rfl, hB, hcG, B, hbal, hcb, hcc, W, q⟩ := h
    refine ⟨_, (pss_cons (ps_if (pt_cmpR op_notN (pe_callO (ok_law_told T) hG (hr.mono (by decide)) (pa_cons (pv 1) (pa_cons (pe_op (op_repT2 (K := K)) (pe_tup (pa_cons pe_int pa_nil)) (pe_callB (call_lenK (K := K)) (by rfl) T.b_len PySem.boot_len (pa_cons (pv 2) pa_nil))) (pa_cons (pv 3) pa_nil)))) pe_non (nomark _)) (pss_one (ps_ret pe_bl)) pss_nil) (pss_cons (ps_setLc (i := 5) (own := [("at", 4), ("window", 8)]) (g := gTup K 2 (gCons (gName 4) (gCons (gName 8) gNil))) rfl sc_law_none_right.nd rfl rfl (sw_true rfl rfl rfl (by decide +kernel)) (pi_enumTK (K := K) T.b_enumerate (pa_cons (pe_ix (ix_tupK (K := K)) (pv 1) pe_int (fun _ _ => rfl)) pa_nil)) (blkOk_by (own := [("at", 4), ("window", 8)]) (N := n_law_none_right) (sc := defScope s_law_none_right) (by decide +kernel)) (fun _ _ _ _ _ => (pg_tup rfl (pgs_cons (pg_name (i := 4) sc_law_none_right.nd rfl (Or.inl rfl)) (pgs_cons (pg_name (i := 8) sc_law_none_right.nd rfl (Or.inl rfl)) pgs_nil)))) (fun _ _ _ _ _ => pts_one (pt_cmpR op_ne (pe_slice sl_str (pv 8) (po_some pe_int) po_none) (pe_slice sl_str (pv 8) po_none (po_some (pe_un un_neg pe_int))) (nomark _))) (fun _ _ _ _ _ => (pv 4))) (pss_cons (ps_if (pt_cmpR (op_eqDK (K := K) hr.units) (pv 5) (pe_lst pa_nil) (nomark _)) (pss_one (ps_ret pe_bl)) pss_nil) (pss_cons (ps_asg (pe_tup (pa_cons (pe_callO (ok_law_pick T) hG (hr.mono (by decide)) (pa_cons (pv 0) (pa_cons (pv 5) pa_nil))) (pa_cons (pe_callO (ok_law_pick T) hG (hr.mono (by decide)) (pa_cons (pv 0) (pa_cons (pe_lst (pa_cons pe_int (pa_cons pe_int (pa_cons (pe_op op_pow pe_int pe_int) pa_nil)))) pa_nil))) pa_nil))) (pg_tup rfl (pgs_cons (pg_name (i := 4) sc_law_none_right.nd rfl (Or.inl rfl)) (pgs_cons (pg_name (i := 6) sc_law_none_right.nd rfl (Or.inr rfl)) pgs_nil)))) (pss_cons (ps_setLc (i := 7) (own := [("count", 9)]) (g := gName 9) (tt := tYes) rfl sc_law_none_right.nd rfl rfl (sw_true rfl rfl rfl (by decide +kernel)) (pi_tupK (K := K) (pv 2)) (blkOk_by (own := [("count", 9)]) (N := n_law_none_right) (sc := defScope s_law_none_right) (by decide +kernel)) (fun _ _ _ _ _ => pg_name (i := 9) sc_law_none_right.nd rfl (Or.inl rfl)) (fun _ _ _ _ _ => pts_nil) (fun _ _ _ _ _ => (pe_op op_mul (pv 6) (pv 9)))) (pss_cons (ps_asg (pe_op op_add (pe_ix (ix_listK (K := K)) (pv 7) (pv 4) (fun _ _ => rfl)) pe_int) (pg_sub (pv 7) (pv 4) set_list)) (pss_one (ps_ret (pe_and (pe_cmpR op_isN (pe_callO (ok_law_told T) hG (hr.mono (by decide)) (pa_cons (pv 1) (pa_cons (pe_callTy (call_tupleK (K := K)) (by rfl) T.b_tuple (by decide +kernel) (pa_cons (pv 7) pa_nil)) (pa_cons (pv 3) pa_nil)))) pe_non (nomark _)) (pe_one (pe_cmpR op_is_bl (pe_callO (ok_balance T) hG (hr.mono (by decide)) (pa_cons (pv 1) (pa_cons (pe_callTy (call_tupleK (K := K)) (by rfl) T.b_tuple (by decide +kernel) (pa_cons (pv 7) pa_nil)) pa_nil))) pe_bl (nomark _)))))))))))), ?_⟩
    obtain ⟨a, t, rfl, h1, h2⟩ := dp_book hB
    have few := B.few
    have hi6 := B.hi
    have nd : ws.Nodup := asc_nodup B.win.2
    have lm : (ws.map V.str).length = ws.length := List.length_map ..
    have wpos : 1 ≤ ws.length := List.length_pos_iff.mpr B.ne
    have s1 : 1 ≤ sizeLine := sz_of (by omega)
    have s2 : 2 ≤ sizeLine := sz_of (by omega)
    have s3 : 3 ≤ sizeLine := sz_of (by omega)
    have wl : ∀ x ∈ ws, x.length ≤ sizeLine := fun x hx => by have := (B.win.1 x hx).2; exact sz_of (by omega)
    have cl : (cntV ws c).length = ws.length := cntV_len
    refine ⟨_, rfl, s1, fun p np => ⟨_, rfl, b, _, rfl, .inr (ex_t (Ex.new np) (ex_t W.e hcG)), p, _, [.int 0], rfl, rfl, SqT.of upd_same, List.cons_ne_nil _ _, by rw [cl]; omega, by rw [cl]; omega, by show 1 ≤ 1000; omega, fun p2 H2 e2 hp2 => ?_⟩⟩
    rw [Int.toNat_natCast, cl, zeros] at hp2
    have e02 := (Ex.new (o := .tup [.int 0]) np).trans e2
    refine ⟨_, rfl, .ref a, n, p2, k, ws, fun _ => 0, rfl, dp_ex (W.e.trans e02) hB, hp2, B, fun g => absurd g good_zero, fun _ H3 e3 => ⟨rfl, _, rfl, ?_⟩⟩
    rw [decide_eq_true (rfl : V.non = V.non)]
    refine iteF ?_
    obtain ⟨G3, eG3, W3, _⟩ := W.ex (e02.trans e3)
    have h1' := ex_t W3.e (ex_t eG3 h1)
    have h2' := ex_t W3.e (ex_t eG3 h2)
    refine ⟨_, rfl, _, _, _, _, rfl, rfl, h1', atI_of (j := 1) rfl rfl, t, _, rfl, h2', fun D nD => ?_⟩
    have S := src_enumT (K := K) h2'
    rw [lm] at S
    refine lc_src (K := K) S (by omega) (fun i => decide (endS (atS ws i) ≠ begS (atS ws i))) (fun i => .int (i : Int)) (fun _ _ => rfl) nD (fun i x H4 Y Z hi e4 it hy hn => ?_) (fun H4 acc e4 hD ha => ?_)
    · obtain ⟨T', y, rfl, hT, hy2⟩ := it
      obtain ⟨z, hz, rfl⟩ := str_at hy2
      have zw := List.mem_of_getElem? hz
      rw [atS_of hz] at hy hn
      refine ⟨T', _, rfl, SqT.of hT, rfl, _, _, rfl, _, _, rfl, rfl, rfl, _, rfl, 1, rfl, z, rfl, wl z zw, ?_⟩
      rw [cut_end]
      refine ⟨_, rfl, 1, rfl, _, rfl, z, rfl, wl z zw, ?_⟩
      rw [show cutS z none (some (-1)) = begS z from cut_beg z]
      refine ⟨rfl, _, rfl, ?_⟩
      by_cases he : endS z = begS z
      · rw [decide_eq_true (show V.str (endS z) = V.str (begS z) by rw [he])]
        exact iteF (hn (decide_eq_false fun q => q he) _ (Ex.refl _))
      · rw [decide_eq_false (show ¬ V.str (endS z) = V.str (begS z) from fun q => he (V.str.inj q))]
        exact iteT ⟨_, rfl, hy (decide_eq_true he) _ _ (Ex.refl _) (.int _)⟩
    obtain ⟨G4, eG4, W4, hD4, _⟩ := W3.newt e4 nD hD
    have hS0 : ∀ i ∈ (List.range ws.length).filter (fun i => decide (endS (atS ws i) ≠ begS (atS ws i))), i < ws.length ∧ endS (atS ws i) ≠ begS (atS ws i) := fun i hi => by
      obtain ⟨g1, g2⟩ := List.mem_filter.mp hi
      exact ⟨List.mem_range.mp g1, of_decide_eq_true g2⟩
    have hS1 : ((List.range ws.length).filter (fun i => decide (endS (atS ws i) ≠ begS (atS ws i)))).length ≤ ws.length := by
      have := List.length_filter_le (fun i => decide (endS (atS ws i) ≠ begS (atS ws i))) (List.range ws.length)
      rw [List.length_range] at this
      exact this
    have ha : DpAll K H4 acc (((List.range ws.length).filter (fun i => decide (endS (atS ws i) ≠ begS (atS ws i)))).map fun i : Nat => PyData.int (i : Int)) := ha
    generalize (List.range ws.length).filter (fun i => decide (endS (atS ws i) ≠ begS (atS ws i))) = S0 at ha hS0 hS1
    have eacc : acc = (S0.map fun i : Nat => (i : Int)).map V.int := ints_dpa (by rw [List.map_map]; exact ha)
    refine ⟨_, rfl, sz_of (by show 0 ≤ 1000000; decide), fun np nnp => ⟨.list (S0.map fun i : Nat => PyData.int (i : Int)), .list [], .lst (SqL.of (Ex.new nnp _ _ hD)) (dpa_ex (Ex.new nnp) ha), .lst (SqL.of upd_same) .nil, shapedI S0, rfl, _, rfl, ?_⟩⟩
    have W5 := W4.new (o := .lst []) nnp
    have e5 : Ex G4 (upd G4 np (.lst [])) := Ex.new (W4.free nnp)
    have hD5 := e5 _ _ hD4
    have e05 : Ex G (upd G4 np (.lst [])) := (eG3.trans eG4).trans e5
    generalize upd G4 np (.lst []) = G5 at W5 e5 hD5 e05
    generalize upd H4 np (.lst []) = H5 at W5
    cases S0 with
    | nil => exact iteT (q G5 H5 e05 (W5.up (by omega)))
    | cons i0 is =>
      refine iteF ?_
      have al : acc.length = (i0 :: is).length := by rw [eacc, List.length_map, List.length_map]
      have al1 : 1 ≤ acc.length := by rw [al, List.length_cons]; omega
      have ten : CPow 10 30 := by refine ⟨?_, ?_, ?_⟩ <;> decide
      refine ⟨_, rfl, _, rfl, w, .ref D, acc.length, cc, G5, rfl, al1, by omega, by omega, W5, .inr ⟨D, acc, rfl, .inl (SqL.of hD5), rfl, fun v H6 hv W6 => ?_⟩⟩
      rw [eacc] at hv
      obtain ⟨ii, hii, rfl⟩ := int_mem hv
      obtain ⟨i, hi, rfl⟩ := List.mem_map.mp hii
      obtain ⟨hil, hie⟩ := hS0 i hi
      refine ⟨_, rfl, 10, 30, rfl, rfl, ten, s3, fun p3 np3 => ⟨w, .ref p3, 3, _, upd G5 p3 _, rfl, by omega, by omega, by omega, W6.new np3, .inr ⟨p3, _, rfl, .inl (SqL.of upd_same), rfl, fun v2 H7 hv2 W7 => ?_⟩⟩⟩
      obtain ⟨tm, rfl⟩ : ∃ tm : Nat, v2 = V.int (tm : Int) := by
        simp only [List.mem_cons, List.mem_nil_iff, or_false] at hv2
        rcases hv2 with rfl | rfl | rfl
        · exact ⟨1, rfl⟩
        · exact ⟨1, rfl⟩
        · exact ⟨10 ^ 30, by rfl⟩
      refine ⟨s2, fun T2 nT2 => ⟨T2, _, rfl, SqT.of upd_same, rfl, _, _, rfl, _, _, rfl, rfl, ?_⟩⟩
      have xz : ws[i]? = some ws[i] := List.getElem?_eq_getElem hil
      have xw : ws[i] ∈ ws := List.getElem_mem hil
      rw [atS_of xz] at hie
      have W8 := W7.new (o := .tup [.int (i : Int), .int (tm : Int)]) nT2
      have e8 : Ex G (upd (upd G5 p3 (HO.lst [V.int 1, V.int 1, (fun i j : Int => V.int (i ^ j.toNat)) 10 30])) T2 (.tup [.int (i : Int), .int (tm : Int)])) := (e05.trans (Ex.new (W6.free np3))).trans (Ex.new (W7.free nT2))
      have W8' : Wt w (cc + 2) (upd (upd G5 p3 (HO.lst [V.int 1, V.int 1, (fun i j : Int => V.int (i ^ j.toNat)) 10 30])) T2 (.tup [.int (i : Int), .int (tm : Int)])) (upd H7 T2 (.tup [.int (i : Int), .int (tm : Int)])) := W8
      clear W8
      generalize upd (upd G5 p3 (HO.lst [V.int 1, V.int 1, (fun i j : Int => V.int (i ^ j.toNat)) 10 30])) T2 (.tup [.int (i : Int), .int (tm : Int)]) = G8 at W8' e8
      generalize upd H7 T2 (.tup [.int (i : Int), .int (tm : Int)]) = H8 at W8'
      have hc8 := ex_t W8'.e (ex_t e8 hcG)
      refine ⟨_, rfl, b, rfl, ⟨_, hc8⟩, fun D2 nD2 => ?_⟩
      refine lc_tp (K := K) hc8 (fun _ => true) (fun j => .int ((tm * c (atS ws j) : Nat) : Int)) nD2 (by omega) (fun _ _ => rfl) (fun j x H9 Y Z hj e9 it hy _ => ?_) (fun H9 acc2 e9 hD2 ha2 => ?_)
      · obtain ⟨z, hz, rfl⟩ := cntV_at it
        have hz2 := hcb z (List.mem_of_getElem? hz)
        have hy := hy rfl
        dsimp only at hy
        rw [atS_of hz] at hy
        refine ⟨rfl, lc_yes ⟨_, rfl, _, rfl, _, _, rfl, rfl, .inr ⟨by omega, by omega⟩, ?_⟩⟩
        have := hy (.int ((tm * c z : Nat) : Int)) H9 (Ex.refl _) (.int _)
        rw [show ((tm * c z : Nat) : Int) = (tm : Int) * (c z : Int) from Int.natCast_mul ..] at this
        exact this
      rw [cl, givenS ws (fun _ => true) (fun z => .int ((tm * c z : Nat) : Int)), filter_true] at ha2
      have ha2 := cnt_acc (d := fun z => tm * c z) ha2
      subst ha2
      obtain ⟨G9, e9', W9, hD9, _⟩ := W8'.newt e9 nD2 hD2
      have hset : (cntV ws fun z => tm * c z).set i (V.int (((tm * c ws[i] : Nat) : Int) + 1)) = cntV ws (offC tm c ws[i]) := by
        unfold cntV
        rw [set_map nd xz]
        refine List.map_congr_left fun z _ => ?_
        unfold offC
        by_cases h : z = ws[i]
        · rw [if_pos h, if_pos h]
          rfl
        · rw [if_neg h, if_neg h]
      have gat : atI (cntV ws fun z => tm * c z) (i : Int) = some (V.int ((tm * c ws[i] : Nat) : Int)) := atI_of (j := i) rfl (by
        unfold cntV
        rw [List.getElem?_map, xz]
        rfl)
      refine ⟨_, rfl, _, rfl, D2, _, _, _, rfl, rfl, SqL.of hD2, gat, _, _, rfl, rfl, _, rfl, _, rfl, D2, _, _, i, rfl, rfl, hD2, ixN_at (by rw [cntV_len]; exact hil), ?_⟩
      dsimp only
      rw [hset]
      have W10 := W9.mut (o' := .lst (cntV ws (offC tm c ws[i]))) hD9
      have e9G : Ex G (upd G9 D2 (.lst (cntV ws (offC tm c ws[i])))) := Ex.mut (e8.trans e9') (fresh_back (W8'.e.trans (Ex.refl _) |> fun _ => e8) (W8'.free nD2))
      have hD10 : (upd H9 D2 (.lst (cntV ws (offC tm c ws[i])))) D2 = some (.lst (cntV ws (offC tm c ws[i]))) := upd_same
      generalize upd G9 D2 (.lst (cntV ws (offC tm c ws[i]))) = G10 at W10 e9G
      generalize upd H9 D2 (.lst (cntV ws (offC tm c ws[i]))) = H10 at W10 hD10
      have hnb := off_bal (tm := tm) nd xw hie hbal
      have hB10 := dp_ex (e9G.trans W10.e) hB
      refine ⟨_, rfl, _, rfl, D2, _, rfl, .inl ⟨SqL.of hD10, fun l nl => ?_⟩⟩
      have xl := Ex.new (o := .tup (cntV ws (offC tm c ws[i]))) nl
      refine ⟨_, rfl, .ref a, n, l, k, ws, offC tm c ws[i], rfl, dp_ex xl hB10, SqT.of upd_same, B, fun g => absurd g.2.1 hnb, fun _ H11 e11 => ⟨rfl, _, rfl, ?_⟩⟩
      rw [decide_eq_true (rfl : V.non = V.non)]
      have x1 := xl.trans e11
      refine iteT ⟨_, rfl, _, rfl, D2, _, rfl, .inl ⟨SqL.of (x1 _ _ hD10), fun l2 nl2 => ?_⟩⟩
      have xl2 := Ex.new (o := .tup (cntV ws (offC tm c ws[i]))) nl2
      refine ⟨.ref a, n, l2, ws, offC tm c ws[i], rfl, dp_ex (x1.trans xl2) hB10, SqT.of upd_same, B, fun u H12 e12 hu => ?_⟩
      obtain rfl := dp_bl hu
      refine ⟨_, _, rfl, rfl, ?_⟩
      rw [show balB ws (offC tm c ws[i]) = false from Bool.eq_false_iff.mpr fun h => hnb (balB_iff.mp h)]
      obtain ⟨G12, eG12, W12, _⟩ := W10.ex ((x1.trans xl2).trans e12)
      exact q G12 H12 (e9G.trans eG12) (W12.up (by omega))
end

section
variable {P : Program} {wd : World} {K : PySem.W.Frag} {mg : Str → Option Value} {base : Heap}
theorem mt_indexK {X : Cx} {K : PySem.W.Frag} (h : X.K = K := by rfl) : MtR X "list.index" (rIndex K) := by
  subst h
  exact mt_index
/-- letters from a lowest to a highest -/
def Btw (lo hi : Nat) (x : Str) : Prop := ∀ c ∈ sg x, lo ≤ c ∧ c ≤ hi
theorem idx_first {ks : List Str} {x : Str} (nd : ks.Nodup) (h : x ∈ ks) : ∃ j : Nat, j < ks.length ∧ (ks.map V.str)[j]? = some (.str x) ∧ ∀ (m : Nat) (z' : V), m < j → (ks.map V.str)[m]? = some z' → eqV z' (.str x) = false := by
  refine ⟨ks.idxOf x, List.idxOf_lt_length_iff.mpr h, ?_, fun m z' hm hz => ?_⟩
  · rw [List.getElem?_map, List.getElem?_eq_getElem (List.idxOf_lt_length_iff.mpr h), List.getElem_idxOf]
    rfl
  · obtain ⟨y, hy, rfl⟩ := str_at hz
    have hne : y ≠ x := fun e => by
      have l1 := (List.getElem?_eq_some_iff.mp hy).1
      have l2 := List.idxOf_lt_length_iff.mpr h
      have e1 := (List.getElem?_eq_some_iff.mp hy).2
      have e2 : ks[ks.idxOf x] = x := List.getElem_idxOf ..
      have := (List.getElem_inj (h₀ := l1) (h₁ := l2) nd).mp (e1.trans (e.trans e2.symm))
      omega
    show (y == x) = false
    exact beq_eq_false_iff_ne.mpr hne
def sp_law_renamed : Sp := fun vs H Q _ => ∃ (r z : Str), vs = [.str r, .str z] ∧ 1 ≤ r.length ∧ r.length ≤ 1000 ∧ (ded ((sg r).map fun c => tx [c])).length ≤ z.length ∧ z.length ≤ 100 ∧ ∀ x H', Ex H H' → x.length = r.length → (∀ c ∈ sg x, c ∈ sg z) → Q (.str x) H'
theorem ok_law_renamed (T : Tx K mg) : Ok P wd K mg base CX0 1 "_law_renamed" ["ring", "letters"] sp_law_renamed := by
  refine T.d_law_renamed.ok sc_law_renamed (fun vs H Q E h => ?_) (fun f cdv A outer s H vs Q E hG hr h => ?_)
  · obtain ⟨r, z, rfl, _⟩ := h
    rfl
  · obtain ⟨r, z, rfl, h1, h2, hz, hz2, q⟩ := h
    refine ⟨_, (pss_cons (ps_set (i := 2) sc_law_renamed.nd rfl (Or.inr rfl) (pe_callB (cr_sortSet rfl hr.units) (by rfl) T.b_sorted (by decide +kernel) (pa_cons (pe_callTy (cr_setS rfl) (by rfl) T.b_set (by decide +kernel) (pa_cons (pv 0) pa_nil)) pa_nil))) (pss_one (ps_ret (pe_joinK (K := K) pe_str (pe_lc (own := [("letter", 3)]) (g := gName 3) (tt := tYes) rfl sc_law_renamed.nd (pi_str (pv 0)) (blkOk_by (own := [("letter", 3)]) (N := n_law_renamed) (sc := defScope s_law_renamed) (by decide +kernel)) (fun _ _ _ _ _ => pg_name (i := 3) sc_law_renamed.nd rfl (Or.inl rfl)) (fun _ _ _ _ _ => pts_nil) (fun _ _ _ _ _ => (pe_ix ix_str (pv 1) (pe_bmK (K := K) PySem.F.plainAttrs_list PySem.F.slot_list_index PySem.F.type_list_index (mt_indexK (K := K)) (pv 2) (pa_cons (pv 3) pa_nil)) (fun _ _ => rfl)))))))), ?_⟩
    refine ⟨_, rfl, r, rfl, by omega, fun p np => ⟨p, _, rfl, upd_same, fun KL nKL => ?_⟩⟩
    have e1 := (Ex.new (o := SetH P wd p (ded ((sg r).map fun c => tx [c]))) np).trans (Ex.new (o := .lst ((sortS (ded ((sg r).map fun c => tx [c]))).map V.str)) nKL)
    have hK : (upd (upd H p (SetH P wd p (ded ((sg r).map fun c => tx [c])))) KL (.lst ((sortS (ded ((sg r).map fun c => tx [c]))).map V.str))) KL = some (.lst ((sortS (ded ((sg r).map fun c => tx [c]))).map V.str)) := upd_same
    have kl : (sortS (ded ((sg r).map fun c => tx [c]))).length ≤ z.length := by rw [sortS_len]; exact hz
    have knd : (sortS (ded ((sg r).map fun c => tx [c]))).Nodup := asc_nodup (sortS_asc (ded_nd _))
    have kmem : ∀ c ∈ sg r, tx [c] ∈ sortS (ded ((sg r).map fun c => tx [c])) := fun c hc => sortS_mem.mpr (ded_mem.mpr (List.mem_map.mpr ⟨c, hc, rfl⟩))
    generalize sortS (ded ((sg r).map fun c => tx [c])) = ks at kl knd kmem hK e1 ⊢
    refine ⟨⟨_, rfl⟩, _, rfl, r, rfl, fun D nD => ?_⟩
    have hKH : ∀ H', Ex (upd (upd H p (SetH P wd p (ded ((sg r).map fun c => tx [c])))) KL (.lst (ks.map V.str))) H' → H' KL = some (.lst (ks.map V.str)) := fun H' e => e _ _ hK
    refine lc_st K (z := r) (fun _ => true) (fun i => .str (one1 ((sg z).getD (ks.idxOf (tx [(sg r).getD i 0])) 0))) nD (by show r.length ≤ _; omega) (fun _ _ => rfl) (fun i v H2 Y Z hi e it hy _ => ?_) (fun H2 acc e hD ha => ?_)
    · obtain ⟨c, hc, rfl⟩ := it
      have hil : i < (sg r).length := hi
      have eg : (sg r).getD i 0 = c := by
        unfold sg
        rw [List.getD_eq_getElem?_getD, Array.getElem?_toList, hc]
        rfl
      have cm : c ∈ sg r := by
        rw [← eg, List.getD_eq_getElem?_getD, List.getElem?_eq_getElem hil]
        exact List.getElem_mem hil
      have hy := hy rfl
      dsimp only at hy
      rw [eg] at hy
      have kx := kmem c cm
      have hj := List.idxOf_lt_length_iff.mpr kx
      have zl : ks.idxOf (tx [c]) < (sg z).length := Nat.lt_of_lt_of_le hj kl
      obtain ⟨j, j1, j2, j3⟩ := idx_first knd kx
      have ej : j = ks.idxOf (tx [c]) := by
        have a1 : ks[j]? = some (tx [c]) := by
          obtain ⟨y, hy1, hy2⟩ := str_at j2
          rw [hy1]
          rw [V.str.inj hy2]
        have a2 : ks[j] = tx [c] := (List.getElem?_eq_some_iff.mp a1).2
        have a3 : ks[ks.idxOf (tx [c])] = tx [c] := List.getElem_idxOf ..
        exact (List.getElem_inj (h₀ := j1) (h₁ := hj) knd).mp (a2.trans a3.symm)
      refine ⟨rfl, lc_yes ⟨_, rfl, _, rfl, .inl ⟨rfl, _, SqL.of (hKH _ e)⟩, _, rfl, KL, ks.map V.str, .str (tx [c]), j, .str (tx [c]), rfl, rfl, SqL.of (hKH _ e), rfl, flat_strs ks, j2, ?_, j3, z, j, (sg z)[ks.idxOf (tx [c])], rfl, rfl, sz_of (by omega), atI_of (j := ks.idxOf (tx [c])) (by rw [ej]) (List.getElem?_eq_getElem zl), ?_⟩⟩
      · show (tx [c] == tx [c]) = true
        exact beq_self_eq_true _
      · have := hy (.str (one1 (sg z)[ks.idxOf (tx [c])])) H2 (Ex.refl _) (by
          rw [show (sg z).getD (ks.idxOf (tx [c])) 0 = (sg z)[ks.idxOf (tx [c])] by rw [List.getD_eq_getElem?_getD, List.getElem?_eq_getElem zl]; rfl]
          exact .str _)
        exact this
    · rw [givenD_all] at ha
      have ea : acc = (((List.range r.cps.size).map fun i => (sg z).getD (ks.idxOf (tx [(sg r).getD i 0])) 0).map one1).map V.str := strs_dpa (by
        rw [List.map_map, List.map_map]
        exact ha)
      subst ea
      refine ⟨"", D, ((List.range r.cps.size).map fun i => (sg z).getD (ks.idxOf (tx [(sg r).getD i 0])) 0).map one1, rfl, rfl, .inl (SqL.of hD), ?_, ?_⟩
      · rw [lens_ones1, List.length_map, List.length_map, List.length_range]
        have : ("" : Str).length = 0 := by decide +kernel
        rw [this]
        show r.length + r.length * 0 ≤ _
        omega
      rw [join_ones1]
      refine q _ _ (e1.trans e) ?_ fun c hc => ?_
      · show ((List.range r.cps.size).map _).length = _
        rw [List.length_map, List.length_range]
        rfl
      · obtain ⟨i, hi, rfl⟩ := List.mem_map.mp (show c ∈ (List.range r.cps.size).map _ from hc)
        have hil : i < (sg r).length := List.mem_range.mp hi
        have cm : (sg r).getD i 0 ∈ sg r := by
          rw [List.getD_eq_getElem?_getD, List.getElem?_eq_getElem hil]
          exact List.getElem_mem hil
        have zl : ks.idxOf (tx [(sg r).getD i 0]) < (sg z).length := Nat.lt_of_lt_of_le (List.idxOf_lt_length_iff.mpr (kmem _ cm)) kl
        rw [List.getD_eq_getElem?_getD (l := sg z), List.getElem?_eq_getElem zl]
        exact List.getElem_mem zl
end

section
variable {P : Program} {wd : World} {K : PySem.W.Frag} {mg : Str → Option Value} {base : Heap}
theorem ded_few {r z : Str} (h : ∀ c ∈ sg r, c ∈ sg z) : (ded ((sg r).map fun c => tx [c])).length ≤ z.length := by
  have := nodup_len (l := (sg z).map fun c => tx [c]) (ded_nd ((sg r).map fun c => tx [c])) fun x hx => by
    obtain ⟨c, hc, rfl⟩ := List.mem_map.mp (ded_mem.mp hx)
    exact List.mem_map.mpr ⟨c, h c hc, rfl⟩
  rw [List.length_map] at this
  exact this
theorem abcd_low : ∀ c ∈ sg ("abcd" : Str), 97 ≤ c ∧ c ≤ 104 := by
  have : (sg ("abcd" : Str)).all (fun c => decide (97 ≤ c ∧ c ≤ 104)) = true := by decide +kernel
  exact fun c hc => of_decide_eq_true (List.all_eq_true.mp this c hc)
theorem mnop_high : ∀ c ∈ sg ("mnop" : Str), 105 ≤ c ∧ c ≤ 122 := by
  have : (sg ("mnop" : Str)).all (fun c => decide (105 ≤ c ∧ c ≤ 122)) = true := by decide +kernel
  exact fun c hc => of_decide_eq_true (List.all_eq_true.mp this c hc)
theorem list_bk {n : Nat} {xs : List Str} (h1 : 2 ≤ n) (h2 : n ≤ 6) (hx : ∀ x ∈ xs, Word x ∧ x.length = n) (ne : xs ≠ []) (hl : xs.length ≤ 80) : Bk n (sortS (ded xs)) := by
  have dl := ded_le xs
  refine ⟨h1, h2, ⟨fun x h => hx x (ded_mem.mp (sortS_mem.mp h)), sortS_asc (ded_nd _)⟩, ?_, by rw [sortS_len]; omega⟩
  intro h
  have l1 : (sortS (ded xs)).length = 0 := by rw [h]; rfl
  rw [sortS_len] at l1
  obtain ⟨x, hx⟩ := List.exists_mem_of_ne_nil _ ne
  have h3 := ded_mem.mpr hx
  rw [List.length_eq_zero_iff.mp l1] at h3
  cases h3
theorem sides_not {n tm : Nat} {A B : List Str} {c : Str → Nat} (h1 : 2 ≤ n) (hA : ∀ x ∈ A, x.length = n ∧ Low x) (hB : ∀ x ∈ B, x.length = n ∧ High x) (neA : A ≠ []) (neB : B ≠ []) (hc : ∀ x ∈ A ++ B, 0 < c x) : ¬ Good (sortS (ded (A ++ B))) c := fun g => by
  obtain ⟨x, hx⟩ := List.exists_mem_of_ne_nil _ neA
  obtain ⟨y, hy⟩ := List.exists_mem_of_ne_nil _ neB
  have up : ∀ z ∈ A ++ B, z ∈ heldL (sortS (ded (A ++ B))) c := fun z hz => held_mem.mpr ⟨sortS_mem.mpr (ded_mem.mpr hz), hc z hz⟩
  refine apart (L := heldL (sortS (ded (A ++ B))) c) (fun z hz => ?_) (up x (List.mem_append_left _ hx)) (up y (List.mem_append_right _ hy)) (hA x hx).2 (hB y hy).2 g.2.2
  have hz := ded_mem.mp (sortS_mem.mp (held_mem.mp hz).1)
  rcases List.mem_append.mp hz with h | h
  · obtain ⟨a1, a2⟩ := hA z h
    exact ⟨by omega, .inl a2⟩
  · obtain ⟨a1, a2⟩ := hB z h
    exact ⟨by omega, .inr a2⟩
theorem whole_bal {ws A B C : List Str} (hA : Bal ws (A.count ·)) (hB : Bal ws (B.count ·)) (hC : Bal ws (C.count ·)) : Bal ws ((A ++ B ++ C).count ·) := by
  refine ((hA.add hB).add hC).congr fun x _ => ?_
  rw [List.count_append, List.count_append]
theorem strs_ne {g m k : Int} (xs : List Str) : HO.lst (xs.map V.str) ≠ HO.lst [.int g, .int m, .int k] := fun e => by
  have e := HO.lst.inj e
  cases xs with
  | nil => cases e
  | cons x l => cases (List.cons.inj e).1
theorem hide_keep {w a : Addr} {H : Hp} {o : HO} {g m k : Int} (hw : H w = some (.lst [.int g, .int m, .int k])) (ha : H a = some o) (ho : o ≠ .lst [.int g, .int m, .int k]) : hide w H a = some o := by
  rw [hide_ne (ne_of ha hw ho)]
  exact ha
def sp_law_sides_right : Sp := fun vs H Q _ => ∃ (w : Addr) (k : Bool) (cc : Nat) (G : Hp), vs = [.ref w, .bl k] ∧ cc ≤ 80000 ∧ Wt w cc G H ∧ ∀ G' H', Ex G G' → Wt w (cc + 500) G' H' → Q (.bl true) H'
theorem ok_law_sides_right (T : Tx K mg) : Ok P wd K mg base CX0 10 "_law_sides_right" ["well", "named"] sp_law_sides_right := by
  refine T.d_law_sides_right.ok sc_law_sides_right (fun vs H Q E h => ?_) (fun f cdv A outer s H vs Q E hG hr h => ?_)
  · obtain ⟨w, k, cc, G, rfl, _⟩ := h
    rfl
  · obtain ⟨w, k, cc, G, rfl, hcc, W, q⟩ := h
    refine ⟨_, (pss_cons (ps_set (i := 2) sc_law_sides_right.nd rfl (Or.inl rfl) (pe_callO (ok_law_pick T) hG (hr.mono (by decide)) (pa_cons (pv 0) (pa_cons (pe_lst (pa_cons pe_int (pa_cons pe_int (pa_cons pe_int (pa_cons pe_int pa_nil))))) pa_nil)))) (pss_cons (ps_par (i := 3) (j := 4) rfl sc_law_sides_right.nd rfl rfl (by decide) rfl rfl (pa_cons (pe_callO (ok_law_renamed T) hG (hr.mono (by decide)) (pa_cons (pe_callO (ok_law_ring T) hG (hr.mono (by decide)) (pa_cons (pv 0) (pa_cons pe_int pa_nil))) (pa_cons pe_str pa_nil))) (pa_cons (pe_callO (ok_law_renamed T) hG (hr.mono (by decide)) (pa_cons (pe_callO (ok_law_ring T) hG (hr.mono (by decide)) (pa_cons (pv 0) (pa_cons pe_int pa_nil))) (pa_cons pe_str pa_nil))) pa_nil)) (by rfl)) (pss_cons (ps_asg (pe_tup (pa_cons (pe_callO (ok_law_read T) hG (hr.mono (by decide)) (pa_cons (pv 2) (pa_cons (pv 3) pa_nil))) (pa_cons (pe_callO (ok_law_read T) hG (hr.mono (by decide)) (pa_cons (pv 2) (pa_cons (pv 4) pa_nil))) pa_nil))) (pg_tup rfl (pgs_cons (pg_name (i := 5) sc_law_sides_right.nd rfl (Or.inr rfl)) (pgs_cons (pg_name (i := 6) sc_law_sides_right.nd rfl (Or.inr rfl)) pgs_nil)))) (pss_cons (ps_set (i := 7) sc_law_sides_right.nd rfl (Or.inl rfl) (pe_tup (pa_cons (pv 2) (pa_cons (pe_callTy (call_tupleK (K := K)) (by rfl) T.b_tuple (by decide +kernel) (pa_cons (pe_callB (cr_sortSet rfl hr.units) (by rfl) T.b_sorted (by decide +kernel) (pa_cons (pe_callTy (cr_setL (K := K) rfl) (by rfl) T.b_set (by decide +kernel) (pa_cons (pe_op op_cat (pv 5) (pv 6)) pa_nil)) pa_nil)) pa_nil)) pa_nil)))) (pss_cons (ps_set (i := 8) sc_law_sides_right.nd rfl (Or.inr rfl) (pe_op op_add pe_int (pe_callO (ok_law_take T) hG (hr.mono (by decide)) (pa_cons (pv 0) (pa_cons pe_int pa_nil))))) (pss_cons (ps_set (i := 9) sc_law_sides_right.nd rfl (Or.inl rfl) (pe_callTy (call_tupleK (K := K)) (by rfl) T.b_tuple (by decide +kernel) (pa_cons (pe_lc (own := [("window", 13)]) (g := gName 13) (tt := tYes) rfl sc_law_sides_right.nd (pi_tupK (K := K) (pe_ix (ix_tupK (K := K)) (pv 7) pe_int (fun _ _ => rfl))) (blkOk_by (own := [("window", 13)]) (N := n_law_sides_right) (sc := defScope s_law_sides_right) (by decide +kernel)) (fun _ _ _ _ _ => pg_name (i := 13) sc_law_sides_right.nd rfl (Or.inl rfl)) (fun _ _ _ _ _ => pts_nil) (fun _ _ _ _ _ => (pe_op op_mul (pv 8) (pe_bmK (K := K) PySem.F.plainAttrs_list PySem.F.slot_list_count PySem.F.type_list_count (mt_lcountS (K := K)) (pe_op op_cat (pv 5) (pv 6)) (pa_cons (pv 13) pa_nil))))) pa_nil))) (pss_cons (ps_set (i := 10) sc_law_sides_right.nd rfl (Or.inl rfl) (pe_callTy (call_tupleK (K := K)) (by rfl) T.b_tuple (by decide +kernel) (pa_cons (pe_lc (own := [("count", 14)]) (g := gName 14) (tt := tYes) rfl sc_law_sides_right.nd (pi_tupK (K := K) (pv 9)) (blkOk_by (own := [("count", 14)]) (N := n_law_sides_right) (sc := defScope s_law_sides_right) (by decide +kernel)) (fun _ _ _ _ _ => pg_name (i := 14) sc_law_sides_right.nd rfl (Or.inl rfl)) (fun _ _ _ _ _ => pts_nil) (fun _ _ _ _ _ => (pe_op op_mul (pe_op op_pow pe_int pe_int) (pv 14)))) pa_nil))) (pss_cons (ps_if (PW.pt (pw_or (pt_cmpR op_notN (pe_callO (ok_law_told T) hG (hr.mono (by decide)) (pa_cons (pv 7) (pa_cons (pv 9) (pa_cons (pv 1) pa_nil)))) pe_non (nomark _)) (pw_or1 (pt_cmpR op_notN (pe_callO (ok_law_told T) hG (hr.mono (by decide)) (pa_cons (pv 7) (pa_cons (pv 10) (pa_cons (pv 1) pa_nil)))) pe_non (nomark _))))) (pss_one (ps_ret pe_bl)) pss_nil) (pss_cons (ps_set (i := 11) sc_law_sides_right.nd rfl (Or.inr rfl) (pe_op op_cat (pe_op op_cat (pv 5) (pv 6)) (pe_callO (ok_law_read T) hG (hr.mono (by decide)) (pa_cons (pv 2) (pa_cons (pe_op op_add_str (pv 3) (pv 4)) pa_nil))))) (pss_cons (ps_set (i := 12) sc_law_sides_right.nd rfl (Or.inl rfl) (pe_tup (pa_cons (pv 2) (pa_cons (pe_callTy (call_tupleK (K := K)) (by rfl) T.b_tuple (by decide +kernel) (pa_cons (pe_callB (cr_sortSet rfl hr.units) (by rfl) T.b_sorted (by decide +kernel) (pa_cons (pe_callTy (cr_setL (K := K) rfl) (by rfl) T.b_set (by decide +kernel) (pa_cons (pv 11) pa_nil)) pa_nil)) pa_nil)) pa_nil)))) (pss_one (ps_ret (pe_callO (ok_law_right T) hG (hr.mono (by decide)) (pa_cons (pv 12) (pa_cons (pe_callTy (call_tupleK (K := K)) (by rfl) T.b_tuple (by decide +kernel) (pa_cons (pe_lc (own := [("window", 13)]) (g := gName 13) (tt := tYes) rfl sc_law_sides_right.nd (pi_tupK (K := K) (pe_ix (ix_tupK (K := K)) (pv 12) pe_int (fun _ _ => rfl))) (blkOk_by (own := [("window", 13)]) (N := n_law_sides_right) (sc := defScope s_law_sides_right) (by decide +kernel)) (fun _ _ _ _ _ => pg_name (i := 13) sc_law_sides_right.nd rfl (Or.inl rfl)) (fun _ _ _ _ _ => pts_nil) (fun _ _ _ _ _ => (pe_bmK (K := K) PySem.F.plainAttrs_list PySem.F.slot_list_count PySem.F.type_list_count (mt_lcountS (K := K)) (pv 11) (pa_cons (pv 13) pa_nil)))) pa_nil)) (pa_cons (pv 1) pa_nil)))))))))))))))), ?_⟩
    have s2 : 2 ≤ sizeLine := sz_of (by omega)
    have s4 : 4 ≤ sizeLine := sz_of (by omega)
    refine ⟨_, rfl, s4, fun p np => ⟨w, .ref p, 4, cc, upd G p _, rfl, by omega, by omega, by omega, W.new np, .inr ⟨p, _, rfl, .inl (SqL.of upd_same), rfl, fun v H1 hv W1 => ?_⟩⟩⟩
    obtain ⟨ni, hni, rfl⟩ := int_mem (is := [2, 3, 4, 6]) hv
    obtain ⟨n, rfl, hn2, hn6⟩ : ∃ n : Nat, ni = (n : Int) ∧ 2 ≤ n ∧ n ≤ 6 := by
      simp only [List.mem_cons, List.mem_nil_iff, or_false] at hni
      exact ⟨ni.toNat, by omega, by omega, by omega⟩
    have W1' : Wt w (cc + 1) (upd G p (.lst [.int 2, .int 3, .int 4, .int 6])) H1 := W1
    have e1 : Ex G (upd G p (.lst [.int 2, .int 3, .int 4, .int 6])) := Ex.new (W.free np)
    clear W1
    generalize upd G p (.lst [.int 2, .int 3, .int 4, .int 6]) = G1 at W1' e1
    refine ⟨_, rfl, w, 10, _, G1, rfl, by omega, by omega, by omega, W1', fun r1 G2 H2 hr1 ⟨z1, hz1, hz1'⟩ e2 W2 => ⟨r1, "abcd", rfl, hr1.2.1, by have := hr1.2.2; omega, ?_, by decide +kernel, fun x1 H3 e3 xl1 xm1 => ?_⟩⟩
    · have := ded_few hz1'
      have : ("abcd" : Str).length = 4 := by decide +kernel
      omega
    obtain ⟨G3, e3', W3, _⟩ := W2.ex e3
    refine ⟨_, rfl, w, 10, _, G3, rfl, by omega, by omega, by omega, W3, fun r2 G4 H4 hr2 ⟨z2, hz2, hz2'⟩ e4 W4 => ⟨r2, "mnop", rfl, hr2.2.1, by have := hr2.2.2; omega, ?_, by decide +kernel, fun x2 H5 e5 xl2 xm2 => ⟨_, _, rfl, ?_⟩⟩⟩
    · have := ded_few hz2'
      have : ("mnop" : Str).length = 4 := by decide +kernel
      omega
    obtain ⟨G5, e5', W5, _⟩ := W4.ex e5
    have eG5 : Ex G G5 := (((e1.trans e2).trans e3').trans e4).trans e5'
    have l1a := hr1.2.1
    have l1b := hr1.2.2
    have l2a := hr2.2.1
    have l2b := hr2.2.2
    have wA : ∀ x ∈ rnd n x1, Word x ∧ x.length = n := fun x hx => by
      obtain ⟨a1, a2⟩ := rnd_mem hx
      exact ⟨fun c hc => by have := abcd_low c (xm1 c (a2 c hc)); omega, a1⟩
    have wB : ∀ x ∈ rnd n x2, Word x ∧ x.length = n := fun x hx => by
      obtain ⟨a1, a2⟩ := rnd_mem hx
      exact ⟨fun c hc => by have := mnop_high c (xm2 c (a2 c hc)); omega, a1⟩
    have wC : ∀ x ∈ rnd n (x1 ++ x2), Word x ∧ x.length = n := fun x hx => by
      obtain ⟨a1, a2⟩ := rnd_mem hx
      refine ⟨fun c hc => ?_, a1⟩
      have := a2 c hc
      rw [sg_app] at this
      rcases List.mem_append.mp this with h | h
      · have := abcd_low c (xm1 c h)
        omega
      · have := mnop_high c (xm2 c h)
        omega
    have lA : ∀ x ∈ rnd n x1, x.length = n ∧ Low x := fun x hx => ⟨(wA x hx).2, fun c hc => (abcd_low c (xm1 c ((rnd_mem hx).2 c hc))).2⟩
    have lB : ∀ x ∈ rnd n x2, x.length = n ∧ High x := fun x hx => ⟨(wB x hx).2, fun c hc => (mnop_high c (xm2 c ((rnd_mem hx).2 c hc))).1⟩
    have nA : (rnd n x1).length = r1.length := by rw [rnd_len, xl1]
    have nB : (rnd n x2).length = r2.length := by rw [rnd_len, xl2]
    have nC : (rnd n (x1 ++ x2)).length = r1.length + r2.length := by rw [rnd_len, strLen_app, xl1, xl2]
    have neA : rnd n x1 ≠ [] := fun z => by rw [z] at nA; have : ([] : List Str).length = 0 := rfl; omega
    have neB : rnd n x2 ≠ [] := fun z => by rw [z] at nB; have : ([] : List Str).length = 0 := rfl; omega
    have readOf : ∀ {ws : List Str} {r : Str}, ws.Nodup → (∀ x ∈ rnd n r, x ∈ ws) → Bal ws ((rnd n r).count ·) := fun nd h => rnd_bal nd (by omega) h
    have hl12 : (x1 ++ x2).length = r1.length + r2.length := by rw [strLen_app, xl1, xl2]
    refine ⟨_, rfl, _, rfl, n, x1, rfl, by omega, by omega, by omega, by omega, fun l1 H6 e6 nl1 hl1 => ⟨_, rfl, _, rfl, n, x2, rfl, by omega, by omega, by omega, by omega, fun l2 H7 e7 nl2 hl2 => ⟨s2, fun T0 nT0 => ⟨T0, _, rfl, SqT.of upd_same, rfl, _, _, rfl, _, _, rfl, rfl, ?_⟩⟩⟩⟩
    have rdC := readOf (r := x1 ++ x2) (ws := sortS (ded (rnd n x1 ++ rnd n x2 ++ rnd n (x1 ++ x2)))) (asc_nodup (sortS_asc (ded_nd _))) fun x hx => sortS_mem.mpr (ded_mem.mpr (List.mem_append_right _ hx))
    have rdA := readOf (r := x1) (ws := sortS (ded (rnd n x1 ++ rnd n x2 ++ rnd n (x1 ++ x2)))) (asc_nodup (sortS_asc (ded_nd _))) fun x hx => sortS_mem.mpr (ded_mem.mpr (List.mem_append_left _ (List.mem_append_left _ hx)))
    have rdB := readOf (r := x2) (ws := sortS (ded (rnd n x1 ++ rnd n x2 ++ rnd n (x1 ++ x2)))) (asc_nodup (sortS_asc (ded_nd _))) fun x hx => sortS_mem.mpr (ded_mem.mpr (List.mem_append_left _ (List.mem_append_right _ hx)))
    generalize hAe : rnd n x1 = A1 at *
    generalize hBe : rnd n x2 = B1 at *
    have e8 : Ex H5 (upd H7 T0 (.tup [.ref l1, .ref l2])) := (e6.trans e7).trans (Ex.new nT0)
    have h1 : (upd H7 T0 (.tup [.ref l1, .ref l2])) l1 = some (.lst (A1.map V.str)) := Ex.new nT0 _ _ (e7 _ _ hl1)
    have h2 : (upd H7 T0 (.tup [.ref l1, .ref l2])) l2 = some (.lst (B1.map V.str)) := Ex.new nT0 _ _ hl2
    generalize upd H7 T0 (.tup [.ref l1, .ref l2]) = H8 at e8 h1 h2
    have catl : (A1.map V.str).length + (B1.map V.str).length ≤ sizeLine := by rw [List.length_map, List.length_map, nA, nB]; exact sz_of (by omega)
    have catm : A1.map V.str ++ B1.map V.str = (A1 ++ B1).map V.str := List.map_append.symm
    have abl : (A1 ++ B1).length ≤ 20 := by rw [List.length_append]; omega
    refine ⟨_, rfl, _, rfl, _, rfl, l1, l2, _, _, rfl, rfl, h1, h2, catl, fun p1 np1 => ⟨p1, A1 ++ B1, rfl, SqL.of (by rw [← catm]; exact upd_same), by omega, fun ps nps => ⟨ps, _, rfl, upd_same, fun pl npl => ⟨pl, _, rfl, .inl ⟨SqL.of upd_same, fun t nt => ⟨s2, fun b nb => ?_⟩⟩⟩⟩⟩⟩
    have e9 : Ex H8 (upd (upd (upd (upd (upd H8 p1 (.lst (A1.map V.str ++ B1.map V.str))) ps (SetH P wd ps (ded (A1 ++ B1)))) pl (.lst ((sortS (ded (A1 ++ B1))).map V.str))) t (.tup ((sortS (ded (A1 ++ B1))).map V.str))) b (.tup [.int n, .ref t])) := ((((Ex.new np1).trans (Ex.new nps)).trans (Ex.new npl)).trans (Ex.new nt)).trans (Ex.new nb)
    have hb9 : (upd (upd (upd (upd (upd H8 p1 (.lst (A1.map V.str ++ B1.map V.str))) ps (SetH P wd ps (ded (A1 ++ B1)))) pl (.lst ((sortS (ded (A1 ++ B1))).map V.str))) t (.tup ((sortS (ded (A1 ++ B1))).map V.str))) b (.tup [.int n, .ref t])) b = some (.tup [.int n, .ref t]) := upd_same
    have ht9 : (upd (upd (upd (upd (upd H8 p1 (.lst (A1.map V.str ++ B1.map V.str))) ps (SetH P wd ps (ded (A1 ++ B1)))) pl (.lst ((sortS (ded (A1 ++ B1))).map V.str))) t (.tup ((sortS (ded (A1 ++ B1))).map V.str))) b (.tup [.int n, .ref t])) t = some (.tup ((sortS (ded (A1 ++ B1))).map V.str)) := Ex.new nb _ _ upd_same
    have Bk1 : Bk n (sortS (ded (A1 ++ B1))) := list_bk hn2 hn6 (fun x hx => (List.mem_append.mp hx).elim (wA x) (wB x)) (fun z => neA (List.append_eq_nil_iff.mp z).1) (by omega)
    have sn : ∀ c : Str → Nat, (∀ x ∈ A1 ++ B1, 0 < c x) → ¬ Good (sortS (ded (A1 ++ B1))) c := fun c hc => sides_not (tm := 1) hn2 lA lB neA neB hc
    have wl1 := Bk1.few
    dsimp only
    generalize hws : sortS (ded (A1 ++ B1)) = ws1 at e9 hb9 ht9 Bk1 sn wl1 ⊢
    refine gName_go2 ?_
    obtain ⟨G9, eG9, W9, hG9⟩ := W5.ex (e8.trans e9)
    obtain ⟨wg, wm, wk, _, hw9⟩ := W9.h
    have h1G : G9 l1 = some (.lst (A1.map V.str)) := by rw [hG9]; exact hide_keep hw9 (e9 _ _ h1) (strs_ne A1)
    have h2G : G9 l2 = some (.lst (B1.map V.str)) := by rw [hG9]; exact hide_keep hw9 (e9 _ _ h2) (strs_ne B1)
    have hbG : G9 b = some (.tup [.int n, .ref t]) := by rw [hG9]; exact hide_keep hw9 hb9 (fun z => nomatch z)
    have htG : G9 t = some (.tup (ws1.map V.str)) := by rw [hG9]; exact hide_keep hw9 ht9 (fun z => nomatch z)
    refine ⟨_, rfl, w, 3, _, G9, rfl, by omega, by omega, by omega, W9, fun ti H10 hti W10 => ⟨1, ti, rfl, rfl, ?_⟩⟩
    have h1 := W10.e _ _ h1G
    have h2 := W10.e _ _ h2G
    have hb10 := W10.e _ _ hbG
    have ht10 := W10.e _ _ htG
    obtain ⟨tm, htm, htm1, htm3⟩ : ∃ tm : Nat, (1 : Int) + (ti : Int) = (tm : Int) ∧ 1 ≤ tm ∧ tm ≤ 3 := ⟨1 + ti, by omega, by omega, by omega⟩
    show gName 8 (V.int ((1 : Int) + (ti : Int))) _ _ _
    rw [htm]
    have cntb : ∀ z, (A1 ++ B1).count z ≤ 20 := fun z => Nat.le_trans (List.count_le_length) abl
    refine ⟨_, rfl, _, _, _, _, rfl, rfl, SqT.of hb10, atI_of (j := 1) rfl rfl, t, rfl, ⟨_, SqT.of ht10⟩, fun D nD => ?_⟩
    refine lcs_tp (K := K) (SqT.of ht10) (fun _ => true) (fun z => .int ((tm * (A1 ++ B1).count z : Nat) : Int)) nD (by omega) (fun _ _ => rfl) (fun z H11 Y Z hz e11 hy hn => ?_) (fun H11 acc e11 hD ha => ?_)
    · refine ⟨rfl, lc_yes ⟨_, rfl, _, rfl, _, rfl, l1, l2, _, _, rfl, rfl, e11 _ _ h1, e11 _ _ h2, catl, fun p2 np2 => ⟨.inl ⟨rfl, _, SqL.of upd_same⟩, _, rfl, p2, A1 ++ B1, z, rfl, rfl, SqL.of (by rw [← catm]; exact upd_same), _, _, rfl, rfl, .inl ⟨by omega, by omega⟩, ?_⟩⟩⟩
      have := hy rfl (.int ((tm * (A1 ++ B1).count z : Nat) : Int)) _ (Ex.new (o := .lst (A1.map V.str ++ B1.map V.str)) np2) (.int _)
      rw [show ((tm * (A1 ++ B1).count z : Nat) : Int) = (tm : Int) * (((A1 ++ B1).count z : Nat) : Int) from Int.natCast_mul ..] at this
      exact this
    rw [filter_true] at ha
    have ha := cnt_acc (d := fun z => tm * (A1 ++ B1).count z) ha
    subst ha
    refine ⟨D, _, rfl, .inl ⟨SqL.of hD, fun ct nct => ?_⟩⟩
    have e12 : Ex H10 (upd H11 ct (.tup (cntV ws1 fun z => tm * (A1 ++ B1).count z))) := e11.trans (Ex.new nct)
    have hct : (upd H11 ct (.tup (cntV ws1 fun z => tm * (A1 ++ B1).count z))) ct = some (.tup (cntV ws1 fun z => tm * (A1 ++ B1).count z)) := upd_same
    generalize upd H11 ct (.tup (cntV ws1 fun z => tm * (A1 ++ B1).count z)) = H12 at e12 hct
    have ten : CPow 10 30 := by refine ⟨?_, ?_, ?_⟩ <;> decide
    refine ⟨_, rfl, ct, rfl, ⟨_, SqT.of hct⟩, fun D2 nD2 => ?_⟩
    refine lc_tp (K := K) (SqT.of hct) (fun _ => true) (fun j => .int ((10 ^ 30 * (tm * (A1 ++ B1).count (atS ws1 j)) : Nat) : Int)) nD2 (by rw [cntV_len]; omega) (fun _ _ => rfl) (fun j x H13 Y Z hj e13 it hy _ => ?_) (fun H13 acc2 e13 hD2 ha2 => ?_)
    · obtain ⟨z, hz, rfl⟩ := cntV_at it
      have hz2 := cntb z
      have hz3 : tm * (A1 ++ B1).count z ≤ 3 * 20 := Nat.mul_le_mul htm3 hz2
      have hy := hy rfl
      dsimp only at hy
      rw [atS_of hz] at hy
      refine ⟨rfl, lc_yes ⟨10, 30, rfl, rfl, ten, _, rfl, _, _, rfl, rfl, .inr ⟨by omega, by omega⟩, ?_⟩⟩
      have := hy (.int ((10 ^ 30 * (tm * (A1 ++ B1).count z) : Nat) : Int)) H13 (Ex.refl _) (.int _)
      rw [show ((10 ^ 30 * (tm * (A1 ++ B1).count z) : Nat) : Int) = (10 : Int) ^ (30 : Int).toNat * ((tm * (A1 ++ B1).count z : Nat) : Int) by rw [Int.natCast_mul]; rfl] at this
      exact this
    rw [cntV_len, givenS ws1 (fun _ => true) (fun z => .int ((10 ^ 30 * (tm * (A1 ++ B1).count z) : Nat) : Int)), filter_true] at ha2
    have ha2 := cnt_acc (d := fun z => 10 ^ 30 * (tm * (A1 ++ B1).count z)) ha2
    subst ha2
    refine ⟨D2, _, rfl, .inl ⟨SqL.of hD2, fun gt ngt => ?_⟩⟩
    have e14 : Ex H12 (upd H13 gt (.tup (cntV ws1 fun z => 10 ^ 30 * (tm * (A1 ++ B1).count z)))) := e13.trans (Ex.new ngt)
    have hgt : (upd H13 gt (.tup (cntV ws1 fun z => 10 ^ 30 * (tm * (A1 ++ B1).count z)))) gt = some (.tup (cntV ws1 fun z => 10 ^ 30 * (tm * (A1 ++ B1).count z))) := upd_same
    generalize upd H13 gt (.tup (cntV ws1 fun z => 10 ^ 30 * (tm * (A1 ++ B1).count z))) = H14 at e14 hgt
    have e1014 := e12.trans e14
    have cpos : ∀ x ∈ A1 ++ B1, 0 < tm * (A1 ++ B1).count x := fun x hx => Nat.mul_pos (by omega) (List.count_pos_iff.mpr hx)
    refine ⟨_, rfl, _, rfl, _, rfl, .ref b, n, ct, k, ws1, _, rfl, bookDp (SqT.of (e1014 _ _ hb10)) (SqT.of (e1014 _ _ ht10)), SqT.of (e14 _ _ hct), Bk1, fun g => absurd g (sn _ cpos), fun _ H15 e15 => ⟨rfl, _, rfl, ?_⟩⟩
    rw [decide_eq_true (rfl : V.non = V.non)]
    have e1015 := e1014.trans e15
    refine iteF ⟨_, rfl, _, rfl, _, rfl, .ref b, n, gt, k, ws1, _, rfl, bookDp (SqT.of (e1015 _ _ hb10)) (SqT.of (e1015 _ _ ht10)), SqT.of (e15 _ _ hgt), Bk1, fun g => absurd g (sn _ fun x hx => Nat.mul_pos (Nat.pow_pos (by omega)) (cpos x hx)), fun _ H16 e16 => ⟨rfl, _, rfl, ?_⟩⟩
    rw [decide_eq_true (rfl : V.non = V.non)]
    have e1016 := e1015.trans e16
    refine iteF ?_
    refine ⟨_, rfl, _, rfl, l1, l2, _, _, rfl, rfl, e1016 _ _ h1, e1016 _ _ h2, catl, fun p3 np3 => ⟨_, rfl, _, rfl, _, rfl, _, _, rfl, rfl, sz_of (by omega), n, x1 ++ x2, rfl, by omega, by omega, by omega, by omega, fun l3 H17 e17 nl3 hl3 => ⟨p3, l3, _, _, rfl, rfl, e17 _ _ upd_same, hl3, ?_, fun wl nwl => ?_⟩⟩⟩
    · rw [catm, List.length_map, List.length_map, nC]
      exact sz_of (by omega)
    have catw : A1.map V.str ++ B1.map V.str ++ (rnd n (x1 ++ x2)).map V.str = (A1 ++ B1 ++ rnd n (x1 ++ x2)).map V.str := by rw [catm, ← List.map_append]
    have wlen : (A1 ++ B1 ++ rnd n (x1 ++ x2)).length ≤ 40 := by rw [List.length_append, nC]; omega
    have e1018 : Ex H10 (upd H17 wl (.lst ((A1 ++ B1 ++ rnd n (x1 ++ x2)).map V.str))) := ((e1016.trans (Ex.new np3)).trans e17).trans (Ex.new nwl)
    have hwl : (upd H17 wl (.lst ((A1 ++ B1 ++ rnd n (x1 ++ x2)).map V.str))) wl = some (.lst ((A1 ++ B1 ++ rnd n (x1 ++ x2)).map V.str)) := upd_same
    rw [catw]
    have wW : ∀ x ∈ A1 ++ B1 ++ rnd n (x1 ++ x2), Word x ∧ x.length = n := fun x hx => (List.mem_append.mp hx).elim (fun h => (List.mem_append.mp h).elim (wA x) (wB x)) (wC x)
    have neW : A1 ++ B1 ++ rnd n (x1 ++ x2) ≠ [] := fun z => neA (List.append_eq_nil_iff.mp (List.append_eq_nil_iff.mp z).1).1
    have balW := whole_bal rdA rdB rdC
    generalize A1 ++ B1 ++ rnd n (x1 ++ x2) = Wh at *
    generalize upd H17 wl (.lst (Wh.map V.str)) = H18 at e1018 hwl
    refine ⟨_, rfl, _, rfl, wl, Wh, rfl, SqL.of hwl, by omega, fun ps2 nps2 => ⟨ps2, _, rfl, upd_same, fun pl2 npl2 => ⟨pl2, _, rfl, .inl ⟨SqL.of upd_same, fun t2 nt2 => ⟨s2, fun b2 nb2 => ?_⟩⟩⟩⟩⟩
    have Bk2 : Bk n (sortS (ded Wh)) := list_bk hn2 hn6 wW neW (by omega)
    have wl2 := Bk2.few
    have nd2 : (sortS (ded Wh)).Nodup := asc_nodup Bk2.win.2
    have e19 : Ex H18 (upd (upd (upd (upd H18 ps2 (SetH P wd ps2 (ded Wh))) pl2 (.lst ((sortS (ded Wh)).map V.str))) t2 (.tup ((sortS (ded Wh)).map V.str))) b2 (.tup [.int n, .ref t2])) := (((Ex.new nps2).trans (Ex.new npl2)).trans (Ex.new nt2)).trans (Ex.new nb2)
    have hb19 : (upd (upd (upd (upd H18 ps2 (SetH P wd ps2 (ded Wh))) pl2 (.lst ((sortS (ded Wh)).map V.str))) t2 (.tup ((sortS (ded Wh)).map V.str))) b2 (.tup [.int n, .ref t2])) b2 = some (.tup [.int n, .ref t2]) := upd_same
    have ht19 : (upd (upd (upd (upd H18 ps2 (SetH P wd ps2 (ded Wh))) pl2 (.lst ((sortS (ded Wh)).map V.str))) t2 (.tup ((sortS (ded Wh)).map V.str))) b2 (.tup [.int n, .ref t2])) t2 = some (.tup ((sortS (ded Wh)).map V.str)) := Ex.new nb2 _ _ upd_same
    refine ⟨_, rfl, _, rfl, _, _, _, _, rfl, rfl, SqT.of hb19, atI_of (j := 1) rfl rfl, t2, rfl, ⟨_, SqT.of ht19⟩, fun D3 nD3 => ?_⟩
    refine lcs_tp (K := K) (SqT.of ht19) (fun _ => true) (fun z => .int ((Wh.count z : Nat) : Int)) nD3 (by omega) (fun _ _ => rfl) (fun z H20 Y Z hz e20 hy hn => ?_) (fun H20 acc3 e20 hD3 ha3 => ?_)
    · have hw20 := e20 _ _ (e19 _ _ hwl)
      exact ⟨rfl, lc_yes ⟨_, rfl, .inl ⟨rfl, _, SqL.of hw20⟩, _, rfl, wl, Wh, z, rfl, rfl, SqL.of hw20, hy rfl _ _ (Ex.refl _) (.int _)⟩⟩
    rw [filter_true] at ha3
    have ha3 := cnt_acc (d := fun z => Wh.count z) ha3
    subst ha3
    refine ⟨D3, _, rfl, .inl ⟨SqL.of hD3, fun ct2 nct2 => ?_⟩⟩
    have e1021 := ((e1018.trans e19).trans e20).trans (Ex.new (o := .tup (cntV (sortS (ded Wh)) fun z => Wh.count z)) nct2)
    have x21 := Ex.new (o := .tup (cntV (sortS (ded Wh)) fun z => Wh.count z)) nct2
    refine ⟨_, rfl, .ref b2, n, ct2, k, sortS (ded Wh), fun z => Wh.count z, rfl, bookDp (SqT.of (x21 _ _ (e20 _ _ hb19))) (SqT.of (x21 _ _ (e20 _ _ ht19))), SqT.of upd_same, Bk2, balW, fun _ => ?_, fun u H22 e22 hu => ?_⟩
    · rw [← len_counts nd2 fun x hx => sortS_mem.mpr (ded_mem.mpr hx)]
      omega
    · obtain rfl := dp_bl hu
      obtain ⟨G22, eG22, W22, _⟩ := W10.ex (e1021.trans e22)
      exact q G22 H22 ((eG5.trans eG9).trans eG22) (W22.up (by omega))
end

section
variable {P : Program} {wd : World} {K : PySem.W.Frag} {mg : Str → Option Value} {base : Heap}
def spLaw (K : PySem.W.Frag) : Sp := fun vs H Q _ => ∃ (a : Addr) (ns : List Int), vs = [.ref a] ∧ SqL K H a (ns.map V.int) ∧ ns.length ≤ 63 ∧ ∀ H', Q (.bl true) H'
theorem ok_law (T : Tx K mg) : Ok P wd K mg base CX0 11 "law" ["script"] (spLaw K) := by
  refine T.d_law.ok sc_law (fun vs H Q E h => ?_) (fun f cdv A outer s H vs Q E hG hr h => ?_)
  · obtain ⟨a, ns, rfl, _⟩ := h
    rfl
  · obtain ⟨a, ns, rfl, hS, hl, q⟩ := h
    refine ⟨_, (pss_cons (ps_for PassesOwn.never rfl (pi_range1 (by rfl) T.b_range (pa_cons (pe_callB (call_max2 rfl) (by rfl) T.b_max (by decide +kernel) (pa_cons pe_int (pa_cons (pe_callB (call_min2 rfl) (by rfl) T.b_min (by decide +kernel) (pa_cons pe_int (pa_cons (pe_callB (call_lenK (K := K)) (by rfl) T.b_len PySem.boot_len (pa_cons (pv 0) pa_nil)) pa_nil))) pa_nil))) pa_nil)) (pg_name (i := 1) sc_law.nd rfl (Or.inl rfl)) (pss_cons (ps_set (i := 2) sc_law.nd rfl (Or.inl rfl) (pe_callO (ok_law_well T) hG (hr.mono (by decide)) (pa_cons (pv 0) (pa_cons (pv 1) pa_nil)))) (pss_cons (ps_par (i := 3) (j := 4) rfl sc_law.nd rfl rfl (by decide) rfl rfl (pa_cons (pe_callO (ok_law_wide T) hG (hr.mono (by decide)) (pa_cons (pv 2) pa_nil)) (pa_cons (pe_cmpR op_eq (pe_callO (ok_law_take T) hG (hr.mono (by decide)) (pa_cons (pv 2) (pa_cons pe_int pa_nil))) pe_int (nomark _)) pa_nil)) (by rfl)) (pss_cons (ps_for PassesOwn.never rfl (pi_range1 (by rfl) T.b_range (pa_cons pe_int pa_nil)) (pg_name (i := 5) sc_law.nd rfl (Or.inl rfl)) (pss_cons (ps_set (i := 6) sc_law.nd rfl (Or.inl rfl) (pe_callO (ok_law_sum T) hG (hr.mono (by decide)) (pa_cons (pv 2) (pa_cons (pv 3) pa_nil)))) (pss_one (ps_if (PW.pt (pw_or (pt_not (pt_val (pe_callO (ok_law_right T) hG (hr.mono (by decide)) (pa_cons (pv 3) (pa_cons (pv 6) (pa_cons (pv 4) pa_nil)))))) (pw_or1 (pt_not (pt_val (pe_callO (ok_law_none_right T) hG (hr.mono (by decide)) (pa_cons (pv 2) (pa_cons (pv 3) (pa_cons (pv 6) (pa_cons (pv 4) pa_nil)))))))))) (pss_one (ps_ret pe_bl)) pss_nil)))) (pss_cons (ps_asg (pe_callO (ok_law_house T) hG (hr.mono (by decide)) (pa_cons (pv 2) (pa_cons pe_int pa_nil))) (pg_tup rfl (pgs_cons (pg_name (i := 7) sc_law.nd rfl (Or.inl rfl)) (pgs_cons (pg_name (i := 8) sc_law.nd rfl (Or.inl rfl)) pgs_nil)))) (pss_cons (ps_set (i := 6) sc_law.nd rfl (Or.inl rfl) (pe_callO (ok_law_counted T) hG (hr.mono (by decide)) (pa_cons (pv 7) (pa_cons (pe_op op_rep_str2 (pv 8) (pe_callO (ok_law_pick T) hG (hr.mono (by decide)) (pa_cons (pv 2) (pa_cons (pe_lst (pa_cons pe_int (pa_cons pe_int (pa_cons pe_int (pa_cons (pe_op op_fdivN pe_int (pe_callB call_len_str (by rfl) T.b_len PySem.boot_len (pa_cons (pv 8) pa_nil))) pa_nil))))) pa_nil)))) pa_nil)))) (pss_one (ps_if (PW.pt (pw_or (pt_not (pt_val (pe_callO (ok_law_right T) hG (hr.mono (by decide)) (pa_cons (pv 7) (pa_cons (pv 6) (pa_cons (pe_not (pv 4)) pa_nil)))))) (pw_or1 (pt_not (pt_val (pe_callO (ok_law_sides_right T) hG (hr.mono (by decide)) (pa_cons (pv 2) (pa_cons (pv 4) pa_nil)))))))) (pss_one (ps_ret pe_bl)) pss_nil)))))))) (pss_one (ps_ret pe_bl))), ?_⟩
    have lmap : (ns.map V.int).length = ns.length := List.length_map ..
    have s4 : 4 ≤ sizeLine := sz_of (by omega)
    obtain ⟨m, hm, hm3⟩ : ∃ m : Nat, (if (if ((ns.map V.int).length : Int) < 3 then ((ns.map V.int).length : Int) else 3) > 1 then (if ((ns.map V.int).length : Int) < 3 then ((ns.map V.int).length : Int) else 3) else 1) = (m : Int) ∧ m ≤ 3 := by
      refine ⟨(if (if ((ns.map V.int).length : Int) < 3 then ((ns.map V.int).length : Int) else 3) > 1 then (if ((ns.map V.int).length : Int) < 3 then ((ns.map V.int).length : Int) else 3) else 1).toNat, ?_, ?_⟩
      all_goals (repeat' split) <;> omega
    refine ⟨_, rfl, a, _, rfl, .inl hS, _, _, rfl, _, _, rfl, _, rfl, ?_, ?_, ?_⟩
    · rw [hm]
      omega
    · rw [hm]
      omega
    rw [hm, Int.toNat_natCast]
    refine fo_rng (fun j σ H' => ∃ x1 x2 x3 x4 x5 x6 x7 x8, σ = [some (.ref a), x1, x2, x3, x4, x5, x6, x7, x8] ∧ Ex H H') ⟨_, _, _, _, _, _, _, _, rfl, Ex.refl _⟩ ?_ ?_
    · rintro j σ H1 hj ⟨x1, x2, x3, x4, x5, x6, x7, x8, rfl, e1⟩
      have hk : (0 : Int) + (j : Int) = (j : Int) := Int.zero_add _
      rw [hk]
      refine ⟨_, rfl, _, rfl, a, ns, j, rfl, ex_l e1 hS, by omega, by omega, fun wl G2 H2 e2 W2 => ?_⟩
      refine ⟨_, rfl, wl, 0, G2, rfl, by omega, W2, fun b n ws G3 H3 e3 W3 hB Bk1 hl40 => ⟨_, rfl, wl, 2, 2100, G3, rfl, by omega, by omega, by omega, W3.up (by omega), fun i H4 hi W4 => ⟨rfl, _, _, rfl, ?_⟩⟩⟩
      generalize decide (V.int (i : Int) = V.int 0) = nm
      refine ⟨2, rfl, by decide, by decide, ?_⟩
      refine fo_rng (fun t σ H' => ∃ (G' : Hp) (x5 x6 : Option V), σ = [some (.ref a), some (.int (j : Int)), some (.ref wl), some (.ref b), some (.bl nm), x5, x6, x7, x8] ∧ Ex G3 G' ∧ Wt wl (2101 + 700 * t) G' H') ⟨G3, x5, x6, rfl, Ex.refl _, W4⟩ ?_ ?_
      · rintro t σ H5 ht ⟨G5, x5, x6, rfl, e5, W5⟩
        have ht2 : t < 2 := ht
        refine ⟨_, rfl, _, rfl, wl, .ref b, n, ws, _, G5, rfl, dp_ex e5 hB, Bk1, by omega, W5, fun ct d G6 H6 e6 W6 hct hbal hsum => ?_⟩
        have hB6 := dp_ex (e5.trans e6) hB
        refine ⟨_, rfl, _, rfl, _, rfl, .ref b, n, ct, nm, ws, d, rfl, dp_ex W6.e hB6, ex_t W6.e hct, Bk1, hbal, fun _ => by omega, fun u H7 e7 hu => ?_⟩
        obtain rfl := dp_bl hu
        obtain ⟨G7, e7', W7, _⟩ := W6.ex e7
        refine ⟨true, rfl, iteF ?_⟩
        refine ⟨_, rfl, _, rfl, _, rfl, _, rfl, wl, .ref b, n, ct, nm, ws, d, _, G7, rfl, dp_ex e7' hB6, ex_t e7' hct, Bk1, hbal, fun x hx => ?_, by omega, W7, fun G8 H8 e8 W8 => ⟨true, rfl, iteF ⟨G8, _, _, rfl, ((e5.trans e6).trans e7').trans e8, W8.up (by omega)⟩⟩⟩
        have := sum_ge (c := d) hx
        omega
      · rintro σ H5 ⟨G5, x5, x6, rfl, e5, W5⟩
        have W5 := W5.up (show 2101 + 700 * (2 : Int).toNat ≤ 3600 by decide)
        refine ⟨_, rfl, wl, 40, 3600, G5, rfl, by omega, by omega, by omega, W5, fun T2 b2 n2 r G6 H6 e6 W6 hT2 hB2 hn2 hn6 hr hle => ⟨T2, _, rfl, ex_t W6.e hT2, rfl, _, _, rfl, _, _, rfl, rfl, ?_⟩⟩
        have Bk2 := house_bk hn2 hn6 hr (by omega)
        have r1 := hr.2.1
        have r2 := hr.2.2
        obtain ⟨dv, hdv, hdv2, hdv1⟩ : ∃ dv : Nat, (2000 : Int).fdiv (r.length : Int) = (dv : Int) ∧ dv * r.length ≤ 2000 ∧ 1 ≤ dv := by
          rw [Int.fdiv_eq_ediv_of_nonneg _ (by omega), show (2000 : Int) = ((2000 : Nat) : Int) from rfl, ← Int.natCast_ediv]
          exact ⟨_, rfl, Nat.div_mul_le_self _ _, (Nat.le_div_iff_mul_le (by omega)).mpr (by omega)⟩
        refine ⟨_, rfl, _, rfl, _, rfl, _, rfl, r, rfl, sz_of (by omega), _, _, rfl, rfl, ⟨by omega, by omega⟩, s4, fun p np => ⟨wl, .ref p, 4, _, upd G6 p _, rfl, by omega, by omega, by omega, W6.new np, .inr ⟨p, _, rfl, .inl (SqL.of upd_same), rfl, fun v H7 hv W7 => ?_⟩⟩⟩
        have e7 : Ex G5 (upd G6 p (.lst [.int 1, .int 1, .int 3, (fun i j : Int => V.int (i.fdiv j)) 2000 (r.length : Int)])) := e6.trans (Ex.new (W6.free np))
        have hB7 := dp_ex (Ex.new (o := .lst [.int 1, .int 1, .int 3, (fun i j : Int => V.int (i.fdiv j)) 2000 (r.length : Int)]) (W6.free np)) hB2
        have W7' : Wt wl (3600 + 500 + 1) (upd G6 p (.lst [.int 1, .int 1, .int 3, (fun i j : Int => V.int (i.fdiv j)) 2000 (r.length : Int)])) H7 := W7
        clear W7
        obtain ⟨kk, rfl, hk1, hk2⟩ : ∃ kk : Nat, v = V.int (kk : Int) ∧ 1 ≤ kk ∧ kk * r.length ≤ 2000 := by
          simp only [List.mem_cons, List.mem_nil_iff, or_false] at hv
          rcases hv with rfl | rfl | rfl | rfl
          · exact ⟨1, rfl, by omega, by omega⟩
          · exact ⟨1, rfl, by omega, by omega⟩
          · exact ⟨3, rfl, by omega, by omega⟩
          · exact ⟨dv, by rw [hdv], hdv1, hdv2⟩
        clear hv
        generalize upd G6 p (.lst [.int 1, .int 1, .int 3, (fun i j : Int => V.int (i.fdiv j)) 2000 (r.length : Int)]) = G7 at e7 hB7 W7'
        have hkk : kk ≤ 2000 := by
          have : kk * 1 ≤ kk * r.length := Nat.mul_le_mul_left _ r1
          omega
        have lrr : (tx (rep kk (sg r))).length = kk * r.length := rep_len _ _
        have lr1 : 1 ≤ kk * r.length := Nat.mul_pos (by omega) (by omega)
        have rin : ∀ x ∈ rnd n2 (tx (rep kk (sg r))), x ∈ sortS (ded (rnd n2 r)) := fun x hx => sortS_mem.mpr (ded_mem.mpr (rnd_rep r1 x hx))
        refine ⟨r, (kk : Int), rfl, rfl, by omega, by omega, r1, by rw [Int.toNat_natCast, Nat.mul_comm]; omega, ?_⟩
        rw [Int.toNat_natCast]
        generalize tx (rep kk (sg r)) = rr at lrr rin
        refine ⟨.ref b2, n2, sortS (ded (rnd n2 r)), rr, rfl, dp_ex W7'.e hB7, Bk2, by omega, by omega, rin, fun u H8 e8 hu => ?_⟩
        obtain ⟨ct, rfl, hct⟩ := dp_cnt hu
        have nd2 : (sortS (ded (rnd n2 r))).Nodup := asc_nodup Bk2.win.2
        refine ⟨_, rfl, _, rfl, _, rfl, nm, rfl, .ref b2, n2, ct, !nm, sortS (ded (rnd n2 r)), rndC n2 rr, rfl, dp_ex (W7'.e.trans e8) hB7, hct, Bk2, rnd_bal nd2 (by omega) rin, fun _ => ?_, fun u2 H9 e9 hu2 => ?_⟩
        · have := len_counts nd2 rin
          rw [rnd_len] at this
          show ((sortS (ded (rnd n2 r))).map ((rnd n2 rr).count ·)).sum ≤ 10000
          omega
        · obtain rfl := dp_bl hu2
          obtain ⟨G9, e9', W9, _⟩ := W7'.ex (e8.trans e9)
          refine ⟨true, rfl, iteF ⟨_, rfl, _, rfl, wl, nm, _, G9, rfl, by omega, W9, fun G10 H10 e10 W10 => ⟨true, rfl, iteF ⟨_, _, _, _, _, _, _, _, rfl, ?_⟩⟩⟩⟩
          exact ((((((e1.trans e2).trans e3).trans e5).trans e7).trans e9').trans e10).trans W10.e
    · rintro σ H' ⟨x1, x2, x3, x4, x5, x6, x7, x8, rfl, e⟩
      exact q _
end

def D_is_integer : He.DefD := ⟨("is_integer", none), "is_integer", "is_integer", defArgs s_is_integer, defBody s_is_integer, defScope s_is_integer, [], []⟩
def D_anew : He.DefD := ⟨("anew", none), "anew", "anew", defArgs s_anew, defBody s_anew, defScope s_anew, [], []⟩
def D_are_ascending : He.DefD := ⟨("are_ascending", none), "are_ascending", "are_ascending", defArgs s_are_ascending, defBody s_are_ascending, defScope s_are_ascending, [], []⟩
def D_is_word : He.DefD := ⟨("is_word", none), "is_word", "is_word", defArgs s_is_word, defBody s_is_word, defScope s_is_word, [], []⟩
def D_is_size : He.DefD := ⟨("is_size", none), "is_size", "is_size", defArgs s_is_size, defBody s_is_size, defScope s_is_size, [], []⟩
def D_are_windows : He.DefD := ⟨("are_windows", none), "are_windows", "are_windows", defArgs s_are_windows, defBody s_are_windows, defScope s_are_windows, [], []⟩
def D_is_a_book : He.DefD := ⟨("is_a_book", none), "is_a_book", "is_a_book", defArgs s_is_a_book, defBody s_is_a_book, defScope s_is_a_book, [], []⟩
def D_is_a_ring : He.DefD := ⟨("is_a_ring", none), "is_a_ring", "is_a_ring", defArgs s_is_a_ring, defBody s_is_a_ring, defScope s_is_a_ring, [], []⟩
def D_round_steps : He.DefD := ⟨("round_steps", none), "round_steps", "round_steps", defArgs s_round_steps, defBody s_round_steps, defScope s_round_steps, [], []⟩
def D_places_of : He.DefD := ⟨("places_of", none), "places_of", "places_of", defArgs s_places_of, defBody s_places_of, defScope s_places_of, [], []⟩
def D_need_book : He.DefD := ⟨("need_book", none), "need_book", "need_book", defArgs s_need_book, defBody s_need_book, defScope s_need_book, [], []⟩
def D_need_ring : He.DefD := ⟨("need_ring", none), "need_ring", "need_ring", defArgs s_need_ring, defBody s_need_ring, defScope s_need_ring, [], []⟩
def D_begin_of : He.DefD := ⟨("begin_of", none), "begin_of", "begin_of", defArgs s_begin_of, defBody s_begin_of, defScope s_begin_of, [], []⟩
def D_end_of : He.DefD := ⟨("end_of", none), "end_of", "end_of", defArgs s_end_of, defBody s_end_of, defScope s_end_of, [], []⟩
def D_windows_out : He.DefD := ⟨("windows_out", none), "windows_out", "windows_out", defArgs s_windows_out, defBody s_windows_out, defScope s_windows_out, [], []⟩
def D_places_from : He.DefD := ⟨("places_from", none), "places_from", "places_from", defArgs s_places_from, defBody s_places_from, defScope s_places_from, [], []⟩
def D_a_closed_lot : He.DefD := ⟨("a_closed_lot", none), "a_closed_lot", "a_closed_lot", defArgs s_a_closed_lot, defBody s_a_closed_lot, defScope s_a_closed_lot, [], []⟩
def D_has_ring : He.DefD := ⟨("has_ring", none), "has_ring", "has_ring", defArgs s_has_ring, defBody s_has_ring, defScope s_has_ring, [], []⟩
def D_ends_of : He.DefD := ⟨("ends_of", none), "ends_of", "ends_of", defArgs s_ends_of, defBody s_ends_of, defScope s_ends_of, [], []⟩
def D_excesses : He.DefD := ⟨("excesses", none), "excesses", "excesses", defArgs s_excesses, defBody s_excesses, defScope s_excesses, [], []⟩
def D_are_counts : He.DefD := ⟨("are_counts", none), "are_counts", "are_counts", defArgs s_are_counts, defBody s_are_counts, defScope s_are_counts, [], []⟩
def D_need_counts : He.DefD := ⟨("need_counts", none), "need_counts", "need_counts", defArgs s_need_counts, defBody s_need_counts, defScope s_need_counts, [], []⟩
def D_are_balanced : He.DefD := ⟨("are_balanced", none), "are_balanced", "are_balanced", defArgs s_are_balanced, defBody s_are_balanced, defScope s_are_balanced, [], []⟩
def D_counts_of : He.DefD := ⟨("counts_of", none), "counts_of", "counts_of", defArgs s_counts_of, defBody s_counts_of, defScope s_counts_of, [], []⟩
def D_balance : He.DefD := ⟨("balance", none), "balance", "balance", defArgs s_balance, defBody s_balance, defScope s_balance, [], []⟩
def D_closed_walk : He.DefD := ⟨("closed_walk", none), "closed_walk", "closed_walk", defArgs s_closed_walk, defBody s_closed_walk, defScope s_closed_walk, [], []⟩
def D_ring_with : He.DefD := ⟨("ring_with", none), "ring_with", "ring_with", defArgs s_ring_with, defBody s_ring_with, defScope s_ring_with, [], []⟩
def D_ring_of : He.DefD := ⟨("ring_of", none), "ring_of", "ring_of", defArgs s_ring_of, defBody s_ring_of, defScope s_ring_of, [], []⟩
def D_law_well : He.DefD := ⟨("_law_well", none), "_law_well", "_law_well", defArgs s_law_well, defBody s_law_well, defScope s_law_well, [], []⟩
def D_law_take : He.DefD := ⟨("_law_take", none), "_law_take", "_law_take", defArgs s_law_take, defBody s_law_take, defScope s_law_take, [], []⟩
def D_law_pick : He.DefD := ⟨("_law_pick", none), "_law_pick", "_law_pick", defArgs s_law_pick, defBody s_law_pick, defScope s_law_pick, [], []⟩
def D_law_read : He.DefD := ⟨("_law_read", none), "_law_read", "_law_read", defArgs s_law_read, defBody s_law_read, defScope s_law_read, [], []⟩
def D_law_ring : He.DefD := ⟨("_law_ring", none), "_law_ring", "_law_ring", defArgs s_law_ring, defBody s_law_ring, defScope s_law_ring, [], []⟩
def D_law_rounds : He.DefD := ⟨("_law_rounds", none), "_law_rounds", "_law_rounds", defArgs s_law_rounds, defBody s_law_rounds, defScope s_law_rounds, [], []⟩
def D_law_house : He.DefD := ⟨("_law_house", none), "_law_house", "_law_house", defArgs s_law_house, defBody s_law_house, defScope s_law_house, [], []⟩
def D_law_web : He.DefD := ⟨("_law_web", none), "_law_web", "_law_web", defArgs s_law_web, defBody s_law_web, defScope s_law_web, [], []⟩
def D_law_wide : He.DefD := ⟨("_law_wide", none), "_law_wide", "_law_wide", defArgs s_law_wide, defBody s_law_wide, defScope s_law_wide, [], []⟩
def D_law_spots : He.DefD := ⟨("_law_spots", none), "_law_spots", "_law_spots", defArgs s_law_spots, defBody s_law_spots, defScope s_law_spots, [], []⟩
def D_law_extra : He.DefD := ⟨("_law_extra", none), "_law_extra", "_law_extra", defArgs s_law_extra, defBody s_law_extra, defScope s_law_extra, [], []⟩
def D_law_balanced : He.DefD := ⟨("_law_balanced", none), "_law_balanced", "_law_balanced", defArgs s_law_balanced, defBody s_law_balanced, defScope s_law_balanced, [], []⟩
def D_law_counted : He.DefD := ⟨("_law_counted", none), "_law_counted", "_law_counted", defArgs s_law_counted, defBody s_law_counted, defScope s_law_counted, [], []⟩
def D_law_stroll : He.DefD := ⟨("_law_stroll", none), "_law_stroll", "_law_stroll", defArgs s_law_stroll, defBody s_law_stroll, defScope s_law_stroll, [], []⟩
def D_law_together : He.DefD := ⟨("_law_together", none), "_law_together", "_law_together", defArgs s_law_together, defBody s_law_together, defScope s_law_together, [], []⟩
def D_law_told : He.DefD := ⟨("_law_told", none), "_law_told", "_law_told", defArgs s_law_told, defBody s_law_told, defScope s_law_told, [], []⟩
def D_law_right : He.DefD := ⟨("_law_right", none), "_law_right", "_law_right", defArgs s_law_right, defBody s_law_right, defScope s_law_right, [], []⟩
def D_law_sum : He.DefD := ⟨("_law_sum", none), "_law_sum", "_law_sum", defArgs s_law_sum, defBody s_law_sum, defScope s_law_sum, [], []⟩
def D_law_renamed : He.DefD := ⟨("_law_renamed", none), "_law_renamed", "_law_renamed", defArgs s_law_renamed, defBody s_law_renamed, defScope s_law_renamed, [], []⟩
def D_law_sides_right : He.DefD := ⟨("_law_sides_right", none), "_law_sides_right", "_law_sides_right", defArgs s_law_sides_right, defBody s_law_sides_right, defScope s_law_sides_right, [], []⟩
def D_law_none_right : He.DefD := ⟨("_law_none_right", none), "_law_none_right", "_law_none_right", defArgs s_law_none_right, defBody s_law_none_right, defScope s_law_none_right, [], []⟩
def D_law : He.DefD := ⟨("law", none), "law", "law", defArgs s_law, defBody s_law, defScope s_law, [], []⟩
def hfn : List He.DefD := [D_is_integer, D_anew, D_are_ascending, D_is_word, D_is_size, D_are_windows, D_is_a_book, D_is_a_ring, D_round_steps, D_places_of, D_need_book, D_need_ring, D_begin_of, D_end_of, D_windows_out, D_places_from, D_a_closed_lot, D_has_ring, D_ends_of, D_excesses, D_are_counts, D_need_counts, D_are_balanced, D_counts_of, D_balance, D_closed_walk, D_ring_with, D_ring_of, D_law_well, D_law_take, D_law_pick, D_law_read, D_law_ring, D_law_rounds, D_law_house, D_law_web, D_law_wide, D_law_spots, D_law_extra, D_law_balanced, D_law_counted, D_law_stroll, D_law_together, D_law_told, D_law_right, D_law_sum, D_law_renamed, D_law_sides_right, D_law_none_right, D_law]
def hfa : List He.Fa := [.glo "is_integer", .glo "anew", .glo "are_ascending", .glo "is_word", .glo "is_size", .glo "are_windows", .glo "is_a_book", .glo "is_a_ring", .glo "round_steps", .glo "places_of", .glo "need_book", .glo "need_ring", .glo "begin_of", .glo "end_of", .glo "windows_out", .glo "places_from", .glo "a_closed_lot", .glo "has_ring", .glo "ends_of", .glo "excesses", .glo "are_counts", .glo "need_counts", .glo "are_balanced", .glo "counts_of", .glo "balance", .glo "closed_walk", .glo "ring_with", .glo "ring_of", .glo "_law_well", .glo "_law_take", .glo "_law_pick", .glo "_law_read", .glo "_law_ring", .glo "_law_rounds", .glo "_law_house", .glo "_law_web", .glo "_law_wide", .glo "_law_spots", .glo "_law_extra", .glo "_law_balanced", .glo "_law_counted", .glo "_law_stroll", .glo "_law_together", .glo "_law_told", .glo "_law_right", .glo "_law_sum", .glo "_law_renamed", .glo "_law_sides_right", .glo "_law_none_right", .glo "law", .glo "PieceError", .glo "InvalidBook", .glo "InvalidRing", .glo "InvalidCounts", .glo "NotWithin", .free "range", .free "len", .free "max", .free "min", .free "abs", .free "int", .free "sorted", .free "tuple", .free "list", .free "all", .free "isinstance", .free "enumerate", .free "zip", .free "str", .free "sum", .free "dict", .free "set", .free "bool", .str "LETTERS" "abcdefghijklmnopqrstuvwxyz", .int "LEAST_SIZE" (2), .int "MOST_SIZE" (6)]
def loose0 : List PySem.Str := ["is_integer", "anew", "are_ascending", "is_word", "is_size", "are_windows", "is_a_book", "is_a_ring", "round_steps", "places_of", "need_book", "need_ring", "begin_of", "end_of", "windows_out", "places_from", "a_closed_lot", "has_ring", "ends_of", "excesses", "are_counts", "need_counts", "are_balanced", "counts_of", "balance"]
def loose1 : List PySem.Str := ["closed_walk", "ring_with", "ring_of", "_law_well", "_law_take", "_law_pick", "_law_read", "_law_ring", "_law_rounds", "_law_house", "_law_web", "_law_wide", "_law_spots", "_law_extra", "_law_balanced", "_law_counted", "_law_stroll", "_law_together", "_law_told", "_law_right", "_law_sum", "_law_renamed", "_law_sides_right", "_law_none_right", "PieceError"]
def loose2 : List PySem.Str := ["InvalidBook", "InvalidRing", "InvalidCounts", "NotWithin", "LETTERS", "LEAST_SIZE", "MOST_SIZE"]
def looseAll : List PySem.Str := loose0 ++ loose1 ++ loose2
abbrev hR : PySem.W.OpenRow := PySem.W.OpenLaw.row PySem.Challenge.rw_surepieces_k54_whole_rings_of_closed_wal
abbrev hHk : PySem.W.Hook := He.hookD 4 hfa hfn
def hob (s : PySem.W.SharedT) : He.AlD := He.obsDG 4 hfa hfn (HandSHeadRun.getT s)
theorem hob_eq (s : PySem.W.SharedT) : hob s = hHk.obs s.abs := He.obsDG_eq (HandSHeadRun.getT_eq s)
theorem hrun (w : World) : HandSHeadRun.RunEq hR (PySem.W.view hR.prog [65]) hHk hob 4000 looseAll w := by
  intro os
  kernel_rfl
theorem hfacts {K : PySem.W.Frag} {h : Heap} {mg : Str → Option Value} (X : K.In h) (G : h.Ns mainGlobals mg) (c : He.SaysD hfa hfn K) : Tx K mg where
  d_is_integer := by
    obtain ⟨fd, F⟩ := c.def_ 0 (d := D_is_integer) rfl
    exact ⟨_, fd, F, F.bindsN fun _ _ _ _ _ _ us hl => match us, hl with | [_], _ => rfl, He.glo_ok X G (c.fact 0 (f := .glo "is_integer") rfl)⟩
  d_anew := by
    obtain ⟨fd, F⟩ := c.def_ 1 (d := D_anew) rfl
    exact ⟨_, fd, F, F.bindsN fun _ _ _ _ _ _ us hl => match us, hl with | [_], _ => rfl, He.glo_ok X G (c.fact 1 (f := .glo "anew") rfl)⟩
  d_are_ascending := by
    obtain ⟨fd, F⟩ := c.def_ 2 (d := D_are_ascending) rfl
    exact ⟨_, fd, F, F.bindsN fun _ _ _ _ _ _ us hl => match us, hl with | [_], _ => rfl, He.glo_ok X G (c.fact 2 (f := .glo "are_ascending") rfl)⟩
  d_is_word := by
    obtain ⟨fd, F⟩ := c.def_ 3 (d := D_is_word) rfl
    exact ⟨_, fd, F, F.bindsN fun _ _ _ _ _ _ us hl => match us, hl with | [_], _ => rfl, He.glo_ok X G (c.fact 3 (f := .glo "is_word") rfl)⟩
  d_is_size := by
    obtain ⟨fd, F⟩ := c.def_ 4 (d := D_is_size) rfl
    exact ⟨_, fd, F, F.bindsN fun _ _ _ _ _ _ us hl => match us, hl with | [_], _ => rfl, He.glo_ok X G (c.fact 4 (f := .glo "is_size") rfl)⟩
  d_are_windows := by
    obtain ⟨fd, F⟩ := c.def_ 5 (d := D_are_windows) rfl
    exact ⟨_, fd, F, F.bindsN fun _ _ _ _ _ _ us hl => match us, hl with | [_, _], _ => rfl, He.glo_ok X G (c.fact 5 (f := .glo "are_windows") rfl)⟩
  d_is_a_book := by
    obtain ⟨fd, F⟩ := c.def_ 6 (d := D_is_a_book) rfl
    exact ⟨_, fd, F, F.bindsN fun _ _ _ _ _ _ us hl => match us, hl with | [_], _ => rfl, He.glo_ok X G (c.fact 6 (f := .glo "is_a_book") rfl)⟩
  d_is_a_ring := by
    obtain ⟨fd, F⟩ := c.def_ 7 (d := D_is_a_ring) rfl
    exact ⟨_, fd, F, F.bindsN fun _ _ _ _ _ _ us hl => match us, hl with | [_], _ => rfl, He.glo_ok X G (c.fact 7 (f := .glo "is_a_ring") rfl)⟩
  d_round_steps := by
    obtain ⟨fd, F⟩ := c.def_ 8 (d := D_round_steps) rfl
    exact ⟨_, fd, F, F.bindsN fun _ _ _ _ _ _ us hl => match us, hl with | [_, _], _ => rfl, He.glo_ok X G (c.fact 8 (f := .glo "round_steps") rfl)⟩
  d_places_of := by
    obtain ⟨fd, F⟩ := c.def_ 9 (d := D_places_of) rfl
    exact ⟨_, fd, F, F.bindsN fun _ _ _ _ _ _ us hl => match us, hl with | [_], _ => rfl, He.glo_ok X G (c.fact 9 (f := .glo "places_of") rfl)⟩
  d_need_book := by
    obtain ⟨fd, F⟩ := c.def_ 10 (d := D_need_book) rfl
    exact ⟨_, fd, F, F.bindsN fun _ _ _ _ _ _ us hl => match us, hl with | [_], _ => rfl, He.glo_ok X G (c.fact 10 (f := .glo "need_book") rfl)⟩
  d_need_ring := by
    obtain ⟨fd, F⟩ := c.def_ 11 (d := D_need_ring) rfl
    exact ⟨_, fd, F, F.bindsN fun _ _ _ _ _ _ us hl => match us, hl with | [_], _ => rfl, He.glo_ok X G (c.fact 11 (f := .glo "need_ring") rfl)⟩
  d_begin_of := by
    obtain ⟨fd, F⟩ := c.def_ 12 (d := D_begin_of) rfl
    exact ⟨_, fd, F, F.bindsN fun _ _ _ _ _ _ us hl => match us, hl with | [_], _ => rfl, He.glo_ok X G (c.fact 12 (f := .glo "begin_of") rfl)⟩
  d_end_of := by
    obtain ⟨fd, F⟩ := c.def_ 13 (d := D_end_of) rfl
    exact ⟨_, fd, F, F.bindsN fun _ _ _ _ _ _ us hl => match us, hl with | [_], _ => rfl, He.glo_ok X G (c.fact 13 (f := .glo "end_of") rfl)⟩
  d_windows_out := by
    obtain ⟨fd, F⟩ := c.def_ 14 (d := D_windows_out) rfl
    exact ⟨_, fd, F, F.bindsN fun _ _ _ _ _ _ us hl => match us, hl with | [_], _ => rfl, He.glo_ok X G (c.fact 14 (f := .glo "windows_out") rfl)⟩
  d_places_from := by
    obtain ⟨fd, F⟩ := c.def_ 15 (d := D_places_from) rfl
    exact ⟨_, fd, F, F.bindsN fun _ _ _ _ _ _ us hl => match us, hl with | [_, _], _ => rfl, He.glo_ok X G (c.fact 15 (f := .glo "places_from") rfl)⟩
  d_a_closed_lot := by
    obtain ⟨fd, F⟩ := c.def_ 16 (d := D_a_closed_lot) rfl
    exact ⟨_, fd, F, F.bindsN fun _ _ _ _ _ _ us hl => match us, hl with | [_], _ => rfl, He.glo_ok X G (c.fact 16 (f := .glo "a_closed_lot") rfl)⟩
  d_has_ring := by
    obtain ⟨fd, F⟩ := c.def_ 17 (d := D_has_ring) rfl
    exact ⟨_, fd, F, F.bindsN fun _ _ _ _ _ _ us hl => match us, hl with | [_], _ => rfl, He.glo_ok X G (c.fact 17 (f := .glo "has_ring") rfl)⟩
  d_ends_of := by
    obtain ⟨fd, F⟩ := c.def_ 18 (d := D_ends_of) rfl
    exact ⟨_, fd, F, F.bindsN fun _ _ _ _ _ _ us hl => match us, hl with | [_], _ => rfl, He.glo_ok X G (c.fact 18 (f := .glo "ends_of") rfl)⟩
  d_excesses := by
    obtain ⟨fd, F⟩ := c.def_ 19 (d := D_excesses) rfl
    exact ⟨_, fd, F, F.bindsN fun _ _ _ _ _ _ us hl => match us, hl with | [_, _, _], _ => rfl, He.glo_ok X G (c.fact 19 (f := .glo "excesses") rfl)⟩
  d_are_counts := by
    obtain ⟨fd, F⟩ := c.def_ 20 (d := D_are_counts) rfl
    exact ⟨_, fd, F, F.bindsN fun _ _ _ _ _ _ us hl => match us, hl with | [_, _], _ => rfl, He.glo_ok X G (c.fact 20 (f := .glo "are_counts") rfl)⟩
  d_need_counts := by
    obtain ⟨fd, F⟩ := c.def_ 21 (d := D_need_counts) rfl
    exact ⟨_, fd, F, F.bindsN fun _ _ _ _ _ _ us hl => match us, hl with | [_, _], _ => rfl, He.glo_ok X G (c.fact 21 (f := .glo "need_counts") rfl)⟩
  d_are_balanced := by
    obtain ⟨fd, F⟩ := c.def_ 22 (d := D_are_balanced) rfl
    exact ⟨_, fd, F, F.bindsN fun _ _ _ _ _ _ us hl => match us, hl with | [_, _], _ => rfl, He.glo_ok X G (c.fact 22 (f := .glo "are_balanced") rfl)⟩
  d_counts_of := by
    obtain ⟨fd, F⟩ := c.def_ 23 (d := D_counts_of) rfl
    exact ⟨_, fd, F, F.bindsN fun _ _ _ _ _ _ us hl => match us, hl with | [_, _], _ => rfl, He.glo_ok X G (c.fact 23 (f := .glo "counts_of") rfl)⟩
  d_balance := by
    obtain ⟨fd, F⟩ := c.def_ 24 (d := D_balance) rfl
    exact ⟨_, fd, F, F.bindsN fun _ _ _ _ _ _ us hl => match us, hl with | [_, _], _ => rfl, He.glo_ok X G (c.fact 24 (f := .glo "balance") rfl)⟩
  d_closed_walk := by
    obtain ⟨fd, F⟩ := c.def_ 25 (d := D_closed_walk) rfl
    exact ⟨_, fd, F, F.bindsN fun _ _ _ _ _ _ us hl => match us, hl with | [_, _], _ => rfl, He.glo_ok X G (c.fact 25 (f := .glo "closed_walk") rfl)⟩
  d_ring_with := by
    obtain ⟨fd, F⟩ := c.def_ 26 (d := D_ring_with) rfl
    exact ⟨_, fd, F, F.bindsN fun _ _ _ _ _ _ us hl => match us, hl with | [_, _], _ => rfl, He.glo_ok X G (c.fact 26 (f := .glo "ring_with") rfl)⟩
  d_ring_of := by
    obtain ⟨fd, F⟩ := c.def_ 27 (d := D_ring_of) rfl
    exact ⟨_, fd, F, F.bindsN fun _ _ _ _ _ _ us hl => match us, hl with | [_, _], _ => rfl, He.glo_ok X G (c.fact 27 (f := .glo "ring_of") rfl)⟩
  d_law_well := by
    obtain ⟨fd, F⟩ := c.def_ 28 (d := D_law_well) rfl
    exact ⟨_, fd, F, F.bindsN fun _ _ _ _ _ _ us hl => match us, hl with | [_, _], _ => rfl, He.glo_ok X G (c.fact 28 (f := .glo "_law_well") rfl)⟩
  d_law_take := by
    obtain ⟨fd, F⟩ := c.def_ 29 (d := D_law_take) rfl
    exact ⟨_, fd, F, F.bindsN fun _ _ _ _ _ _ us hl => match us, hl with | [_, _], _ => rfl, He.glo_ok X G (c.fact 29 (f := .glo "_law_take") rfl)⟩
  d_law_pick := by
    obtain ⟨fd, F⟩ := c.def_ 30 (d := D_law_pick) rfl
    exact ⟨_, fd, F, F.bindsN fun _ _ _ _ _ _ us hl => match us, hl with | [_, _], _ => rfl, He.glo_ok X G (c.fact 30 (f := .glo "_law_pick") rfl)⟩
  d_law_read := by
    obtain ⟨fd, F⟩ := c.def_ 31 (d := D_law_read) rfl
    exact ⟨_, fd, F, F.bindsN fun _ _ _ _ _ _ us hl => match us, hl with | [_, _], _ => rfl, He.glo_ok X G (c.fact 31 (f := .glo "_law_read") rfl)⟩
  d_law_ring := by
    obtain ⟨fd, F⟩ := c.def_ 32 (d := D_law_ring) rfl
    exact ⟨_, fd, F, F.bindsN fun _ _ _ _ _ _ us hl => match us, hl with | [_, _], _ => rfl, He.glo_ok X G (c.fact 32 (f := .glo "_law_ring") rfl)⟩
  d_law_rounds := by
    obtain ⟨fd, F⟩ := c.def_ 33 (d := D_law_rounds) rfl
    exact ⟨_, fd, F, F.bindsN fun _ _ _ _ _ _ us hl => match us, hl with | [_, _], _ => rfl, He.glo_ok X G (c.fact 33 (f := .glo "_law_rounds") rfl)⟩
  d_law_house := by
    obtain ⟨fd, F⟩ := c.def_ 34 (d := D_law_house) rfl
    exact ⟨_, fd, F, F.bindsN fun _ _ _ _ _ _ us hl => match us, hl with | [_, _], _ => rfl, He.glo_ok X G (c.fact 34 (f := .glo "_law_house") rfl)⟩
  d_law_web := by
    obtain ⟨fd, F⟩ := c.def_ 35 (d := D_law_web) rfl
    exact ⟨_, fd, F, F.bindsN fun _ _ _ _ _ _ us hl => match us, hl with | [_, _], _ => rfl, He.glo_ok X G (c.fact 35 (f := .glo "_law_web") rfl)⟩
  d_law_wide := by
    obtain ⟨fd, F⟩ := c.def_ 36 (d := D_law_wide) rfl
    exact ⟨_, fd, F, F.bindsN fun _ _ _ _ _ _ us hl => match us, hl with | [_], _ => rfl, He.glo_ok X G (c.fact 36 (f := .glo "_law_wide") rfl)⟩
  d_law_spots := by
    obtain ⟨fd, F⟩ := c.def_ 37 (d := D_law_spots) rfl
    exact ⟨_, fd, F, F.bindsN fun _ _ _ _ _ _ us hl => match us, hl with | [_], _ => rfl, He.glo_ok X G (c.fact 37 (f := .glo "_law_spots") rfl)⟩
  d_law_extra := by
    obtain ⟨fd, F⟩ := c.def_ 38 (d := D_law_extra) rfl
    exact ⟨_, fd, F, F.bindsN fun _ _ _ _ _ _ us hl => match us, hl with | [_, _], _ => rfl, He.glo_ok X G (c.fact 38 (f := .glo "_law_extra") rfl)⟩
  d_law_balanced := by
    obtain ⟨fd, F⟩ := c.def_ 39 (d := D_law_balanced) rfl
    exact ⟨_, fd, F, F.bindsN fun _ _ _ _ _ _ us hl => match us, hl with | [_, _], _ => rfl, He.glo_ok X G (c.fact 39 (f := .glo "_law_balanced") rfl)⟩
  d_law_counted := by
    obtain ⟨fd, F⟩ := c.def_ 40 (d := D_law_counted) rfl
    exact ⟨_, fd, F, F.bindsN fun _ _ _ _ _ _ us hl => match us, hl with | [_, _], _ => rfl, He.glo_ok X G (c.fact 40 (f := .glo "_law_counted") rfl)⟩
  d_law_stroll := by
    obtain ⟨fd, F⟩ := c.def_ 41 (d := D_law_stroll) rfl
    exact ⟨_, fd, F, F.bindsN fun _ _ _ _ _ _ us hl => match us, hl with | [_, _, _], _ => rfl, He.glo_ok X G (c.fact 41 (f := .glo "_law_stroll") rfl)⟩
  d_law_together := by
    obtain ⟨fd, F⟩ := c.def_ 42 (d := D_law_together) rfl
    exact ⟨_, fd, F, F.bindsN fun _ _ _ _ _ _ us hl => match us, hl with | [_, _], _ => rfl, He.glo_ok X G (c.fact 42 (f := .glo "_law_together") rfl)⟩
  d_law_told := by
    obtain ⟨fd, F⟩ := c.def_ 43 (d := D_law_told) rfl
    exact ⟨_, fd, F, F.bindsN fun _ _ _ _ _ _ us hl => match us, hl with | [_, _, _], _ => rfl, He.glo_ok X G (c.fact 43 (f := .glo "_law_told") rfl)⟩
  d_law_right := by
    obtain ⟨fd, F⟩ := c.def_ 44 (d := D_law_right) rfl
    exact ⟨_, fd, F, F.bindsN fun _ _ _ _ _ _ us hl => match us, hl with | [_, _, _], _ => rfl, He.glo_ok X G (c.fact 44 (f := .glo "_law_right") rfl)⟩
  d_law_sum := by
    obtain ⟨fd, F⟩ := c.def_ 45 (d := D_law_sum) rfl
    exact ⟨_, fd, F, F.bindsN fun _ _ _ _ _ _ us hl => match us, hl with | [_, _], _ => rfl, He.glo_ok X G (c.fact 45 (f := .glo "_law_sum") rfl)⟩
  d_law_renamed := by
    obtain ⟨fd, F⟩ := c.def_ 46 (d := D_law_renamed) rfl
    exact ⟨_, fd, F, F.bindsN fun _ _ _ _ _ _ us hl => match us, hl with | [_, _], _ => rfl, He.glo_ok X G (c.fact 46 (f := .glo "_law_renamed") rfl)⟩
  d_law_sides_right := by
    obtain ⟨fd, F⟩ := c.def_ 47 (d := D_law_sides_right) rfl
    exact ⟨_, fd, F, F.bindsN fun _ _ _ _ _ _ us hl => match us, hl with | [_, _], _ => rfl, He.glo_ok X G (c.fact 47 (f := .glo "_law_sides_right") rfl)⟩
  d_law_none_right := by
    obtain ⟨fd, F⟩ := c.def_ 48 (d := D_law_none_right) rfl
    exact ⟨_, fd, F, F.bindsN fun _ _ _ _ _ _ us hl => match us, hl with | [_, _, _, _], _ => rfl, He.glo_ok X G (c.fact 48 (f := .glo "_law_none_right") rfl)⟩
  d_law := by
    obtain ⟨fd, F⟩ := c.def_ 49 (d := D_law) rfl
    exact ⟨_, fd, F, F.bindsN fun _ _ _ _ _ _ us hl => match us, hl with | [_], _ => rfl, He.glo_ok X G (c.fact 49 (f := .glo "law") rfl)⟩
  k_ring_of_counts_book := by
    obtain ⟨fd, F⟩ := c.def_ 27 (d := D_ring_of) rfl
    exact KbAt.of (st := s_ring_of) F (He.glo_ok X G (c.fact 27 (f := .glo "ring_of") rfl)) fun _ _ _ _ _ _ ws hl => match ws, hl with | [_, _], _ => rfl
  b_range := He.free_ok X G (c.fact 55 (f := .free "range") rfl)
  b_len := He.free_ok X G (c.fact 56 (f := .free "len") rfl)
  b_max := He.free_ok X G (c.fact 57 (f := .free "max") rfl)
  b_min := He.free_ok X G (c.fact 58 (f := .free "min") rfl)
  b_abs := He.free_ok X G (c.fact 59 (f := .free "abs") rfl)
  b_int := He.free_ok X G (c.fact 60 (f := .free "int") rfl)
  b_sorted := He.free_ok X G (c.fact 61 (f := .free "sorted") rfl)
  b_tuple := He.free_ok X G (c.fact 62 (f := .free "tuple") rfl)
  b_list := He.free_ok X G (c.fact 63 (f := .free "list") rfl)
  b_all := He.free_ok X G (c.fact 64 (f := .free "all") rfl)
  b_isinstance := He.free_ok X G (c.fact 65 (f := .free "isinstance") rfl)
  b_enumerate := He.free_ok X G (c.fact 66 (f := .free "enumerate") rfl)
  b_zip := He.free_ok X G (c.fact 67 (f := .free "zip") rfl)
  b_str := He.free_ok X G (c.fact 68 (f := .free "str") rfl)
  b_sum := He.free_ok X G (c.fact 69 (f := .free "sum") rfl)
  b_dict := He.free_ok X G (c.fact 70 (f := .free "dict") rfl)
  b_set := He.free_ok X G (c.fact 71 (f := .free "set") rfl)
  b_bool := He.free_ok X G (c.fact 72 (f := .free "bool") rfl)
  g_LETTERS := He.str_ok X G (c.fact 73 (f := .str "LETTERS" "abcdefghijklmnopqrstuvwxyz") rfl)
  g_LEAST_SIZE := He.int_ok X G (c.fact 74 (f := .int "LEAST_SIZE" (2)) rfl)
  g_MOST_SIZE := He.int_ok X G (c.fact 75 (f := .int "MOST_SIZE" (6)) rfl)
end My
open PySem PySem.W PySem.Calls PyProof.Rows
theorem PySem.Challenge.cw_surepieces_k54_whole_rings_of_closed_wal_holds : PySem.Challenge.rw_surepieces_k54_whole_rings_of_closed_wal.Holds := by
  w_on; o_law
  refine HandSHeadRun.head_any (r := OpenLaw.row PySem.Challenge.rw_surepieces_k54_whole_rings_of_closed_wal) (q := view (OpenLaw.row PySem.Challenge.rw_surepieces_k54_whole_rings_of_closed_wal).prog [65]) (H := My.hHk) (ob := My.hob) (M := 4000) (loose := My.looseAll) (d := HandSHeadRun.topDef (OpenLaw.row PySem.Challenge.rw_surepieces_k54_whole_rings_of_closed_wal).prog 65) (kwd := []) My.hob_eq
    (by kernel_rfl) (fun s => by kernel_rfl) My.hrun (by kernel_rfl) (by kernel_rfl) (by kernel_rfl) (by rfl) (by first | assumption | decide +kernel) (by decide +kernel) ⟨rfl, rfl, rfl, rfl, rfl, by decide +kernel⟩ ?hw ?hc
  case hw => w_witness2
  case hc =>
    refine My.end_walk (l := PySem.Challenge.rw_surepieces_k54_whole_rings_of_closed_wal) (n := 63) (k := 11) (x := "script") rfl (by decide) (by kernel_rfl) ⟨rfl, by decide, by decide⟩ ?F
    intro w mg fa h Y G hmg0
    obtain ⟨K, KX, c⟩ := Y
    have hmg : mg ("law" : PySem.Str) = some (.ref fa) := by
      have e : (HandSHeadRun.topDef (OpenLaw.row PySem.Challenge.rw_surepieces_k54_whole_rings_of_closed_wal).prog 65).name = ("law" : PySem.Str) := by kernel_rfl
      rw [← e]
      exact hmg0
    have T := My.hfacts KX G c
    obtain ⟨fd, hb, hF⟩ := My.law_fn (P := (PySem.Challenge.rw_surepieces_k54_whole_rings_of_closed_wal).prog) (w := w) (sp := My.spLaw K) (k := 11) T.d_law hmg (fun base => My.ok_law T) fun _ _ _ _ _ _ us hl => match us, hl with | [_], _ => rfl
    exact ⟨K, fd, My.spLaw K, KX, hb, fun H a ns hl _ hS => ⟨a, ns, rfl, hS, hl, fun _ => rfl⟩, fun base _ _ => hF base⟩

