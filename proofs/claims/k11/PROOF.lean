import PyProof.Rows.All
import Wide.All
import OpenK.AllK
import Wide.FinOn
import PyProof.EqAt
import PyProof.EqKinds
import PyProof.TupleCall
import PyProof.ReprRoads
import HandS.Base
import HandS.Call
import HandS.List
import HandS.Comp
import HandS.Ends
import HandS.Dict
import HandS.Iter
import HandS.Text
import HandS.Words
import HandS.WordsList
import HandS.WordsDict
import HandS.Defaults
import HandS.IsInst
import HandS.Wide
import HandS.WideBits
import HandS.Walk
import HandS.CallLocal
import PyProof.NoPylong
import HandS.ListItems
import HandS.Style
import HandS.NoneIn
import HandS.More
import HandS.TupAny
import HandS.Codes
import PyProof.StrLawsRepr
import HandS.WordsExc
import HandS.ExcIs
import HandS.ExcOwn
import PySem.Challenge.RW_samepoint_k11_expressions_judged
set_option Elab.async false
set_option linter.all false
set_option maxRecDepth 100000
set_option maxHeartbeats 4000000

/-! The layer SP: defs that run where no repr is under way; data told by PyData; a state that grows. -/
namespace SP
open PySem PySem.Spec PyProof.Rows L2

/-! ### defs, called where no guard is up -/
structure FnG (P : Program) (w : World) (K : PySem.W.Frag) (mg : Str → Option Value) (base : Heap) (CX : CXT) (k : Nat) (f : Addr) (fd : FuncData) (ps : List Str) (sp : Sp) : Prop where
  len : ∀ vs H Q E, sp vs H Q E → vs.length = ps.length
  run : ∀ (A : Around) (outer : List Env) (s : Shared) (H : Hp) (args : Args) (us : List Value) (vs : List V) (Q : VK) (E : XK), Room k A → A.guards = some [] →
    Env0 P w K mg base A outer s H → BindsTo s fd args (ps.zip us) → Vals vs us → sp vs H Q E → codeAny (model P w) A (.call (.ref f) args) (CR CX outer P w H s Q E) s
section
variable {P : Program} {w : World} {K : PySem.W.Frag} {mg : Str → Option Value} {base : Heap} {CX : CXT} {j k : Nat} {f : Addr} {fd : FuncData} {ps : List Str} {sp sp' : Sp}
theorem FnG.up (F : FnG P w K mg base CX j f fd ps sp) (h : j ≤ k) : FnG P w K mg base CX k f fd ps sp :=
  ⟨F.len, fun A o s H a us vs Q E r => F.run A o s H a us vs Q E (r.mono h)⟩
theorem FnG.weak (F : FnG P w K mg base CX k f fd ps sp) (h : ∀ vs H Q E, sp' vs H Q E → sp vs H Q E) : FnG P w K mg base CX k f fd ps sp' :=
  ⟨fun vs H Q E q => F.len vs H Q E (h _ _ _ _ q), fun A o s H a us vs Q E r g e b v q => F.run A o s H a us vs Q E r g e b v (h _ _ _ _ q)⟩
theorem FnG.plain (F : FnOk P w K mg base CX k f fd ps sp) : FnG P w K mg base CX k f fd ps sp :=
  ⟨F.len, fun A o s H a us vs Q E r _ e b v q => F.run A o s H a us vs Q E r e b v q⟩
/-- a promise that asks for the impossible at depth 0 -/
theorem FnG.void (h : ∀ vs H Q E, ¬ sp vs H Q E) : FnG P w K mg base CX k f fd ps sp :=
  ⟨fun vs H Q E q => (h vs H Q E q).elim, fun A o s H a us vs Q E _ _ _ _ _ q => (h vs H Q E q).elim⟩
theorem fnG_mk {name qual : Str} {params : Arguments} {body : List Stmt} {scope : Scope} {dV kV doc pm cdv ct oc : Value} {an od : Option Addr}
    {osl : Array (Option Value)} {N : List Str} (lk : K.lookup f = some ⟨oc, od, .func (PySem.W.fnOf name qual params body scope dV kV doc pm an cdv ct), osl⟩) (hcd : PySem.W.codeIn K cdv qual = true) (S : FnScope N ps scope)
    (len : ∀ vs H Q E, sp vs H Q E → vs.length = ps.length)
    (hbody : ∀ (A : Around) (outer : List Env) (s : Shared) (H : Hp) (vs : List V) (Q : VK) (E : XK), Room k (A.deeper (envOfC qual scope s.heap.objs.size f cdv)) →
      (A.deeper (envOfC qual scope s.heap.objs.size f cdv)).guards = some [] → sp vs H Q E →
      ∃ t, PSs (cxOf CX P w K mg base N qual scope f cdv A outer s H E) body t ∧ t { nx := fun _ H' => Q .non H', rt := Q } (start N vs) H) :
    FnG P w K mg base CX (k + 1) f (PySem.W.fnOf name qual params body scope dV kV doc pm an cdv ct) ps sp := by
  refine ⟨len, fun A outer s H args us vs Q E room gd e0 bnd rel hs => ?_⟩
  have inK : K.In s.heap := e0.mod.kin.keeps fun b o e => (e0.bs b o e).1
  have noL : s.heap.NoLimit := e0.mod.nolimit.keeps fun b o e => (e0.bs b o e).1
  refine codeAny_call_function room.depth (inK _ _ lk) rfl S.co S.gen rfl (PySem.W.codeRec_of inK hcd) (bnd _ _ _ _ ?_)
  refine wpAny_newFunctionEnv_cells S.kind (fun y hy => ?_) fun env he s1 x => ?_
  · obtain ⟨n, v⟩ := y
    exact (S.par n (List.of_mem_zip hy).1).elim (fun q => .inl q) fun q => .inr ⟨q, PySem.W.cellsFrom_some _ _ _ (.inl q)⟩
  · subst he
    refine ⟨noL.keeps x.toInCall.keep, codeAny_func ?_⟩
    obtain ⟨t, ht, hq⟩ := hbody A outer s H vs Q E (room.deeper _) gd hs
    have I : Inv (cxOf CX P w K mg base N qual scope f cdv A outer s H E) [] (start N vs) H s1 := inv_start S room.hd e0 (len _ _ _ _ hs) rel x
    refine wpAny_mono (ht.run [] s1 (start N vs) H _ I hq) (fun fl s' r => ?_) fun e s' r => r
    cases fl with
    | ret u =>
      obtain ⟨v, σ', H', J, rv, q⟩ := r
      exact ⟨v, H', J.os, J.bare, J.base, J.hok, rv, q⟩
    | next =>
      obtain ⟨σ', H', J, q⟩ := r
      exact ⟨V.non, H', J.os, J.bare, J.base, J.hok, rfl, q⟩
    | brk =>
      obtain ⟨_, _, _, q⟩ := r
      exact q.elim
    | cont =>
      obtain ⟨_, _, _, q⟩ := r
      exact q.elim
/-- a def of the text that lets no error out: its body as a term of rules and the term's reading -/
theorem okG {x qual : Str} {st : Stmt} {N : List Str} (F : Fun K x qual st f fd) (S : FnScope N ps (defScope st)) (len : ∀ vs H Q E, sp vs H Q E → vs.length = ps.length)
    (hbody : ∀ (cdv : Value) (A : Around) (outer : List Env) (s : Shared) (H : Hp) (vs : List V) (Q : VK) (E : XK), Room k (A.deeper (envOfC qual (defScope st) s.heap.objs.size f cdv)) →
      (A.deeper (envOfC qual (defScope st) s.heap.objs.size f cdv)).guards = some [] → sp vs H Q E →
      ∃ t, PSs (cxOf CX0 P w K mg base N qual (defScope st) f cdv A outer s H E).nox (defBody st) t ∧ t { nx := fun _ H' => Q .non H', rt := Q } (start N vs) H) : FnG P w K mg base CX0 (k + 1) f fd ps sp := by
  obtain ⟨oc, od, kV, doc, pm, an, cdv, ct, osl, rfl, lk, hcd⟩ := F.ex
  refine fnG_mk lk hcd S len fun A outer s H vs Q E room gd hs => ?_
  obtain ⟨t, h, q⟩ := hbody cdv A outer s H vs Q E room gd hs
  exact ⟨t, h.nox, q⟩
end

/-- a def that is called by its name: what a call needs of it -/
structure Df (P : Program) (w : World) (K : PySem.W.Frag) (mg : Str → Option Value) (base : Heap) (CX : CXT) (k : Nat) (x : Str) (ps : List Str) (sp : Sp) : Prop where
  ex : ∃ (f : Addr) (fd : FuncData), FnG P w K mg base CX k f fd ps sp ∧ mg x = some (.ref f) ∧ PySem.W.keepIn K (.ref f) = true ∧ Binds K fd ps []
theorem Df.up {P : Program} {w : World} {K : PySem.W.Frag} {mg : Str → Option Value} {base : Heap} {CX : CXT} {j k : Nat} {x : Str} {ps : List Str} {sp : Sp} (D : Df P w K mg base CX j x ps sp) (h : j ≤ k) : Df P w K mg base CX k x ps sp := by
  obtain ⟨f, fd, F, r⟩ := D.ex
  exact ⟨f, fd, F.up h, r⟩
section
variable {X : Cx} {CX : CXT} {k : Nat} {f C : Addr} {fd : FuncData} {ps : List Str} {sp : Sp} {dvs : List V} {ds : List Value} {E : XK} {x m : Str} {p pos apos : Pos} {e o : Expr} {es : List Expr} {ta : TE} {t : TA}
theorem runG {pins : List (Addr × Obj)} {σ : L2.St} {H : Hp} {s : Shared} {Q : VK} {us : List Value} {vs : List V} (F : FnG X.prog X.w X.K X.mg X.base CX k f fd ps sp) (hr : Room k X.A) (hg : X.A.guards = some []) (hb : Binds X.K fd ps ds) (hd : Vals dvs ds) (hx : Passes CX X E)
    (I : Inv X pins σ H s) (r : Vals vs us) (h : sp (vs ++ dvs) H Q E) : wpAny (model X.prog X.w) X.A (call (.ref f) us) (EP X pins σ Q) X.xe s := by
  have both : Vals (vs ++ dvs) (us ++ ds) := r.append hd
  have hl : (us ++ ds).length = ps.length := both.length ▸ F.len _ _ _ _ h
  refine wpAny_call (codeAny_mono (F.run X.A X.stack s H ⟨us, []⟩ _ _ Q E hr hg I.env0 (hb s us I.kIn hl) both h) fun r s' q => ?_)
  match r, q with
  | .error e, q => exact hx pins σ H s e s' I q
  | .ok (.ret u), q => exact I.after q
theorem pe_callG (F : FnG X.prog X.w X.K X.mg X.base CX k f fd ps sp) (hr : Room k X.A) (gd : X.A.guards = some []) (hg : Gl X x) (hm : X.mg x = some (.ref f)) (hk : PySem.W.keepIn X.K (.ref f) = true) (hb : Binds X.K fd ps ds) (hd : Vals dvs ds) (hx : Passes CX X E)
    (ha : PA X (e :: es) t) (hdb : (x == ("__debug__" : Str)) = false := by decide) (he : starEach (e :: es) X.env = (false, eval e X.env) :: starEach es X.env := by rfl) (hpl : (backTo pos (starEach es X.env)).any (·.1) = false := by rfl) :
    PE X (.Call (.Name x p) (e :: es) [] pos) (tCall sp dvs E t) := by
  refine ⟨fun pins s σ H Q I h => ?_⟩
  refine wpAny_Call_Name_kw (ld_glob I hg hm ?_ hdb)
  exact PySem.W.callWith_K (h₀ := X.base) I.ok.mod.kin hk (thn (ha.run pos pins s σ H _ I h) fun us s1 ⟨vs, H1, J, r, q⟩ => ⟨J.kIn, runG F hr gd hb hd hx J r q⟩) he hpl
theorem pe_callG0 (F : FnG X.prog X.w X.K X.mg X.base CX k f fd ps sp) (hr : Room k X.A) (gd : X.A.guards = some []) (hg : Gl X x) (hm : X.mg x = some (.ref f)) (hk : PySem.W.keepIn X.K (.ref f) = true) (hb : Binds X.K fd ps ds) (hd : Vals dvs ds) (hx : Passes CX X E)
    (hdb : (x == ("__debug__" : Str)) = false := by decide) : PE X (.Call (.Name x p) [] [] pos) (tCall sp dvs E tNil) := by
  refine ⟨fun pins s σ H Q I h => ?_⟩
  refine wpAny_Call_Name_kw (ld_glob I hg hm ?_ hdb)
  exact PySem.W.callWith_K0 I.kIn hk (runG (us := []) F hr gd hb hd hx I .nil h)
theorem pass0' {X : Cx} : Passes CX0 X E0 := fun _ _ _ _ _ _ _ h => h.elim
/-- f(e, ..): a def that lets no error out -/
theorem cl (D : Df X.prog X.w X.K X.mg X.base CX0 k x ps sp) (hr : Room k X.A) (gd : X.A.guards = some []) (ha : PA X (e :: es) t) (hg : Gl X x := by rfl) (hdb : (x == ("__debug__" : Str)) = false := by decide)
    (he : starEach (e :: es) X.env = (false, eval e X.env) :: starEach es X.env := by rfl) (hpl : (backTo pos (starEach es X.env)).any (·.1) = false := by rfl) :
    PE X (.Call (.Name x p) (e :: es) [] pos) (tCall sp [] E0 t) := by
  obtain ⟨f, fd, F, hm, hk, hb⟩ := D.ex
  exact pe_callG F hr gd hg hm hk hb .nil pass0' ha hdb he hpl
theorem cl0 (D : Df X.prog X.w X.K X.mg X.base CX0 k x ps sp) (hr : Room k X.A) (gd : X.A.guards = some []) (hg : Gl X x := by rfl) (hdb : (x == ("__debug__" : Str)) = false := by decide) :
    PE X (.Call (.Name x p) [] [] pos) (tCall sp [] E0 tNil) := by
  obtain ⟨f, fd, F, hm, hk, hb⟩ := D.ex
  exact pe_callG0 F hr gd hg hm hk hb .nil pass0' hdb
end
section
variable {X : Cx} {CX : CXT} {k n : Nat} {f C : Addr} {fd : FuncData} {ps ks : List Str} {sp : Sp} {E : XK} {x : Str} {p pos : Pos} {e : Expr} {es : List Expr} {t tk : TA} {kws : List Keyword} {g : List Value → List Value → List Value} {gV : List V → List V → List V}
theorem runGk {pins : List (Addr × Obj)} {σ : L2.St} {H : Hp} {s : Shared} {Q : VK} {us ws : List Value} {vs zs : List V} (F : FnG X.prog X.w X.K X.mg X.base CX k f fd ps sp) (hr : Room k X.A) (hg : X.A.guards = some []) (hb : KBn X.K fd ps n ks g gV) (hx : Passes CX X E)
    (I : Inv X pins σ H s) (r : Vals vs us) (rz : Vals zs ws) (l1 : vs.length = n) (l2 : zs.length = ks.length) (h : sp (gV vs zs) H Q E) : wpAny (model X.prog X.w) X.A (call (.ref f) us (ks.zip ws)) (EP X pins σ Q) X.xe s := by
  have both := hb.rel r rz
  refine wpAny_call (codeAny_mono (F.run X.A X.stack s H ⟨us, ks.zip ws⟩ _ _ Q E hr hg I.env0 (hb.to s us ws I.kIn (r.length ▸ l1) (rz.length ▸ l2)) both h) fun r s' q => ?_)
  match r, q with
  | .error e, q => exact hx pins σ H s e s' I q
  | .ok (.ret u), q => exact I.after q
/-- f(k = v, ..) without a positional argument -/
theorem pe_callGk0 (F : FnG X.prog X.w X.K X.mg X.base CX k f fd ps sp) (hr : Room k X.A) (gd : X.A.guards = some []) (hg : Gl X x) (hm : X.mg x = some (.ref f)) (hk : PySem.W.keepIn X.K (.ref f) = true) (hb : KBn X.K fd ps 0 ks g gV) (hx : Passes CX X E)
    (hkw : PK X kws tk) (hall : (backToKw pos (keywordEach kws X.env)).all (·.1.isSome) = true := by rfl) (hks : (backToKw pos (keywordEach kws X.env)).filterMap (·.1) = ks := by rfl)
    (hdb : (x == ("__debug__" : Str)) = false := by decide) (hpl : ((backTo pos (starEach [] X.env)).any (·.1) || (backToKw pos (keywordEach kws X.env)).any (·.1.isNone)) = false := by rfl) :
    PE X (.Call (.Name x p) [] kws pos) (tCallN 0 ks.length sp gV E tNil tk) := by
  refine ⟨fun pins s σ H Q I h => ?_⟩
  refine wpAny_Call_Name_kw (ld_glob I hg hm ?_ hdb)
  refine PySem.W.callWith_KW0 (h₀ := X.base) I.ok.mod.kin hk hall ?_ hpl
  refine thn (hkw.run pos pins s σ H _ I h) fun ws s2 ⟨zs, H2, J, rz, l1, l2, q2⟩ => ⟨J.kIn, ?_⟩
  rw [hks]
  exact runGk (us := []) (vs := []) F hr gd hb hx J .nil rz l1 l2 q2
theorem pe_callGk (F : FnG X.prog X.w X.K X.mg X.base CX k f fd ps sp) (hr : Room k X.A) (gd : X.A.guards = some []) (hg : Gl X x) (hm : X.mg x = some (.ref f)) (hk : PySem.W.keepIn X.K (.ref f) = true) (hb : KBn X.K fd ps n ks g gV) (hx : Passes CX X E)
    (ha : PA X (e :: es) t) (hkw : PK X kws tk) (hall : (backToKw pos (keywordEach kws X.env)).all (·.1.isSome) = true := by rfl) (hks : (backToKw pos (keywordEach kws X.env)).filterMap (·.1) = ks := by rfl)
    (hdb : (x == ("__debug__" : Str)) = false := by decide) (he : starEach (e :: es) X.env = (false, eval e X.env) :: starEach es X.env := by rfl)
    (hpl : ((backTo pos (starEach (e :: es) X.env)).any (·.1) || (backToKw pos (keywordEach kws X.env)).any (·.1.isNone)) = false := by rfl) :
    PE X (.Call (.Name x p) (e :: es) kws pos) (tCallN n ks.length sp gV E t tk) := by
  refine ⟨fun pins s σ H Q I h => ?_⟩
  refine wpAny_Call_Name_kw (ld_glob I hg hm ?_ hdb)
  refine PySem.W.callWith_KW (h₀ := X.base) I.ok.mod.kin hk hall (thn (ha.run pos pins s σ H _ I h) fun us s1 ⟨vs, H1, J, r, q⟩ => ?_) hpl he
  refine thn (hkw.run pos pins s1 σ H1 _ J q) fun ws s2 ⟨zs, H2, J2, rz, l1, l2, q2⟩ => ⟨J2.kIn, ?_⟩
  rw [hks]
  exact runGk F hr gd hb hx J2 r rz l1 l2 q2
/-- a statement that is never come to -/
theorem ps_dead {st : Stmt} : PS X st (fun _ _ _ => False) := ⟨fun _ _ _ _ _ _ h => h.elim⟩

/-! ### repr of data -/
/-- data that repr writes -/
structure Shows (d : PyData) : Prop where
  sh : d.showable = true
  sz : d.shown.length ≤ sizeLine
  dp : d.depth ≤ 60
  nd : d.hasDict = false
def rRepr (K : PySem.W.Frag) : List V → Hp → VK → Prop := fun xs H Q => ∃ x d, xs = [x] ∧ Dp K H x d ∧ Shows d ∧ Q (.str d.shown) H
theorem call_repr (hr : Room k X.A) (gd : X.A.guards = some []) : CallR X (.builtin "repr") (rRepr X.K) := by
  intro pins s σ H xs us Q I r h
  obtain ⟨x, d, rfl, hd, sh, q⟩ := h
  obtain ⟨u, rfl, rx⟩ := vals1 r
  have hu := hr.units
  cases hd with
  | non => cases rx; exact PySem.P.repr_of_none ⟨.str _, H, I.tok _, ⟨_, rfl⟩, by rw [PyData.shown_none] at q; exact q⟩
  | bl b => cases rx; exact PySem.P.repr_of_bool ⟨.str _, H, I.tok _, ⟨_, rfl⟩, by rw [PyData.shown_bool] at q; cases b <;> exact q⟩
  | int i =>
    obtain ⟨t, rfl⟩ := rx
    have sz := sh.sh
    simp only [PyData.showable, decide_eq_true_eq] at sz
    exact PySem.P.repr_of_int sz ⟨.str _, H, I.tok _, ⟨_, rfl⟩, by rw [PyData.shown_int] at q; exact q⟩
  | str z =>
    obtain ⟨t, rfl⟩ := rx
    have sz := sh.sz
    rw [PyData.shown_str] at sz
    exact PySem.P.repr_of_str ⟨.str _, H, I.tok _, ⟨_, rfl⟩, by rw [PyData.shown_str] at q; exact q⟩ sz
  | lst hs ha =>
    cases rx
    obtain ⟨as, rd⟩ := Dp.reads I _ _ _ (Dp.lst hs ha) rfl
    exact repr_of_reads' rd sh.sh (PyData.noDict_hsm sh.nd) gd (by have := sh.dp; omega) (fun _ _ e => e) (fun h' u tk hk => ⟨.str _, H, I.un (Un.kept hk) (I.hok.kept hk), ⟨_, rfl⟩, q⟩) sh.sz
  | tup hs ha =>
    cases rx
    obtain ⟨as, rd⟩ := Dp.reads I _ _ _ (Dp.tup hs ha) rfl
    exact repr_of_reads' rd sh.sh (PyData.noDict_hsm sh.nd) gd (by have := sh.dp; omega) (fun _ _ e => e) (fun h' u tk hk => ⟨.str _, H, I.un (Un.kept hk) (I.hok.kept hk), ⟨_, rfl⟩, q⟩) sh.sz
end
end SP

namespace SP
open PySem PySem.Spec PyProof.Rows L2
/-! ### the law's own call, over a def that wants no guard -/
section
variable {P : Program} {w : World} {K : PySem.W.Frag} {mg mb : Str → Option Value} {CX : CXT} {k : Nat} {fa a : Addr} {fd : FuncData} {x : Str} {sp : Sp} {s₁ : Shared} {vs : List Value} {ns : List Int}
/-- the heap that tells of the script alone -/
theorem law_from (KX : K.In s₁.heap) (hns : s₁.heap.Ns mainGlobals mg) (hb : s₁.heap.Ns builtinsNs mb) (hbb : ∀ x : Str, x ≠ "__name__" → mb x = bootBuiltins x) (hlim : s₁.heap.NoLimit) (hg : s₁.gens = #[])
    (ha : s₁.heap.get? a = some { cls := .type "list", data := .seq vs.toArray }) (hr : Room k callerA)
    (F : ∀ base : Heap, K.In base → base.Ns mainGlobals mg → FnG P w K mg base CX k fa fd [x] sp) (hbind : ∀ (s : Shared) (u : Value), BindsTo s fd ⟨[u], []⟩ [(x, u)])
    (hCX : ∀ H e s', CX [] H s₁ (fun _ _ _ => False) e s' → False) (H : Hp) (hO : Only H) (hok : HOk P w H s₁.heap) (only : ∀ b, H b ≠ none → b = a) (noK : H a ≠ none → K.lookup a = none)
    (hq : sp [.ref a] H (fun v _ => v = .bl true) fun _ _ _ => False) :
    codeAny (model P w) callerA (.call (.ref fa) ⟨[.ref a], []⟩) (fun r s' => r = .ok (.ret (.bool true)) ∧ OldK s₁.heap s'.heap ∧ s'.os = s₁.os ∧ AllBare s'.gens) s₁ := by
  have isA : ∀ {b : Addr} {u : HO}, H b = some u → b = a := fun e => only _ (by rw [e]; exact Option.some_ne_none _)
  have out : ∀ {b : Addr} {o : Obj}, s₁.heap.get? b = some o → (∀ n, o.data ≠ .seq vs.toArray n) → H b = none := fun {b o} e d => by
    cases q : H b with
    | none => rfl
    | some u =>
      have := isA q
      subst this
      rw [ha] at e
      cases e
      exact (d _ rfl).elim
  have ns' : ∀ {b : Addr} {m : Str → Option Value}, s₁.heap.Ns b m → (hidT s₁.heap H).Ns b m := fun {b m} ⟨o, es, ep, e, d, r⟩ =>
    ⟨o, es, ep, hidT_get e (out e fun n z => by rw [d] at z; cases z), d, r⟩
  have inK : K.In (hidT s₁.heap H) := fun b o e => hidT_get (KX b o e) (by
    cases q : H b with
    | none => rfl
    | some u =>
      have := isA q
      subst this
      rw [noK (by rw [q]; exact Option.some_ne_none _)] at e
      cases e)
  have md : Mod K mg (hidT s₁.heap H) := by
    obtain ⟨mc, h1, h2⟩ := hlim
    exact ⟨inK, ns' hns, ⟨mb, ns' hb, hbb⟩, ⟨mc, ns' h1, h2⟩⟩
  have nof : ∀ b : Addr, b ∉ frs [] := fun b z => nomatch z
  have e0 : Env0 P w K mg (hidT s₁.heap H) callerA [] s₁ H := ⟨rfl, md, fun b o e => of_hidT e, Nat.le_of_eq (hidT_size _ _), trivial, fun b z => (nof b z).elim, hok, .of_eq hg⟩
  refine codeAny_mono ((F _ inK (ns' hns)).run callerA [] s₁ H ⟨[.ref a], []⟩ [.ref a] [.ref a] _ _ hr rfl e0 (hbind s₁ (.ref a)) (.cons rfl .nil) hq) fun r s' h => ?_
  match r, h with
  | .error e, h => exact (hCX H e s' h).elim
  | .ok (.ret u), h =>
    obtain ⟨v, H', os, bare, un, hok', rv, q⟩ := h
    obtain rfl : v = .bl true := q
    obtain rfl : u = Value.bool true := rv
    refine ⟨rfl, OldK.of_keep fun b o e => ?_, os, bare⟩
    rcases hO b with z | ⟨ob, xs, z⟩
    · exact un.keep b o e z (nof b) (fun z => nomatch z)
    · have z2 := un.frzs b ob _ z
      have e1 := (hok b _ z).1
      rw [e] at e1
      cases e1
      exact (hok' b _ z2).1
theorem law_callG (KX : K.In s₁.heap) (hns : s₁.heap.Ns mainGlobals mg) (hb : s₁.heap.Ns builtinsNs mb) (hbb : ∀ x : Str, x ≠ "__name__" → mb x = bootBuiltins x) (hlim : s₁.heap.NoLimit) (hg : s₁.gens = #[])
    (ha : s₁.heap.get? a = some { cls := .type "list", data := .seq vs.toArray }) (hi : IntsAre vs ns) (hl : ns.length ≤ sizeLine) (hr : Room k callerA)
    (F : ∀ base : Heap, K.In base → base.Ns mainGlobals mg → FnG P w K mg base CX k fa fd [x] sp) (hbind : ∀ (s : Shared) (u : Value), BindsTo s fd ⟨[u], []⟩ [(x, u)])
    (hsp : ∀ H : Hp, Only H → SqL K H a (ns.map V.int) → sp [.ref a] H (fun v _ => v = .bl true) fun _ _ _ => False) (hCX : ∀ H e s', CX [] H s₁ (fun _ _ _ => False) e s' → False) :
    codeAny (model P w) callerA (.call (.ref fa) ⟨[.ref a], []⟩) (fun r s' => r = .ok (.ret (.bool true)) ∧ OldK s₁.heap s'.heap ∧ s'.os = s₁.os ∧ AllBare s'.gens) s₁ := by
  have rv := vals_ints hi
  cases hk : K.lookup a with
  | some o =>
    have e := (ha.symm.trans (KX a o hk))
    cases e
    exact law_from KX hns hb hbb hlim hg ha hr F hbind hCX (fun _ => none) (fun _ => .inl rfl) (fun b u z => nomatch z) (fun b z => (z rfl).elim) (fun z => (z rfl).elim)
      (hsp _ (fun _ => .inl rfl) (.inr ⟨_, vs.toArray, _, hk, rfl, rfl, rfl, by rw [List.size_toArray, hi.length]; exact hl, by simpa using rv⟩))
  | none =>
    have at_ : ∀ {b : Addr} {u : HO}, (if b = a then some (HO.frz { cls := .type "list", data := .seq vs.toArray } (.lst (ns.map V.int))) else none) = some u → b = a ∧ u = .frz { cls := .type "list", data := .seq vs.toArray } (.lst (ns.map V.int)) := fun {b u} z => by
      split at z
      · rename_i e
        cases z
        exact ⟨e, rfl⟩
      · cases z
    refine law_from KX hns hb hbb hlim hg ha hr F hbind hCX (fun b => if b = a then some (.frz { cls := .type "list", data := .seq vs.toArray } (.lst (ns.map V.int))) else none) (fun b => ?_) (fun b u z => ?_) (fun b z => ?_) (fun _ => hk)
      (hsp _ (fun b => ?_) (.inl (.inr ⟨{ cls := .type "list", data := .seq vs.toArray }, if_pos rfl⟩)))
    · by_cases e : b = a
      · exact .inr ⟨_, _, if_pos e⟩
      · exact .inl (if_neg e)
    · obtain ⟨rfl, rfl⟩ := at_ z
      exact ⟨ha, by rw [List.length_map]; exact hl, vs, _, rv, ha⟩
    · by_cases e : b = a
      · exact e
      · exact (z (if_neg e)).elim
    · by_cases e : b = a
      · exact .inr ⟨_, _, if_pos e⟩
      · exact .inl (if_neg e)
end
/-- the goal that k_head leaves, from the law's promise -/
theorem walkG {l : PySem.W.OpenLaw} {n k : Nat} {q : Program} {loose : List Str} {XP : (Str → Option Value) → Heap → Prop} {YP : World → Heap → Prop} {d : DefRec} {K : Params → PySem.W.Frag} {CX : World → CXT} {sp : World → Sp} {x : Str}
    (hn : l.most = some n) (hn2 : n ≤ sizeLine) (hdf : d.params.defaults = []) (hr : Room k callerA)
    (hY : ∀ (w : World) (h : Heap), YP w h → (K w.params).In h)
    (F : ∀ (w : World) (mg : Str → Option Value) (fa : Addr) (h : Heap), (K w.params).In h → h.Ns mainGlobals mg → mg d.name = some (.ref fa) →
      ∃ fd : FuncData, (∀ (s : Shared) (u : Value), BindsTo s fd ⟨[u], []⟩ [(x, u)]) ∧
        ∀ base : Heap, (K w.params).In base → base.Ns mainGlobals mg → FnG l.prog w (K w.params) mg base (CX w) k fa fd [x] (sp w))
    (hsp : ∀ (w : World) (H : Hp) (a : Addr) (ns : List Int), ns.length ≤ n → Only H → SqL (K w.params) H a (ns.map V.int) → sp w [.ref a] H (fun v _ => v = .bl true) fun _ _ _ => False)
    (hCX : ∀ (w : World) (H : Hp) (s : Shared) (e : Value) (s' : Shared), CX w [] H s (fun _ _ _ => False) e s' → False) :
    PySem.W.WalkO q loose XP YP l.row.toRowW d [] (fun f vs => PySem.call f vs) := by
  refine Att.attach_call hn hdf fun w s₀ s₁ mg mb fa o pm cd doc a vs ns G Y ho hd hcd hmg hobj hints hlen hg => ?_
  have KX := hY w _ Y
  obtain ⟨fd, hb, hF⟩ := F w mg fa _ KX G.T.g hmg
  exact law_callG KX G.T.g G.T.b G.T.builtins G.T.nolimit hg hobj hints (Nat.le_trans hlen hn2) hr hF hb (fun H hO hS => hsp w H a ns hlen hO hS) fun H e s' => hCX w H s₁ e s'
end SP

namespace SP
open PySem PySem.Spec PyProof.Rows L2
/-! ### heaps that grow -/
def Ex (G H : Hp) : Prop := ∀ a o, G a = some o → H a = some o
theorem Ex.refl (H : Hp) : Ex H H := fun _ _ h => h
theorem Ex.trans {G H J : Hp} (a : Ex G H) (b : Ex H J) : Ex G J := fun x o h => b x o (a x o h)
/-- one step: what is told of G stands in G' and H'; all but the addresses in M are kept; what H had and G did not tell is not told by G' -/
structure Ste (M : Addr → Prop) (G H G' H' : Hp) : Prop where
  g : Ex G G'
  h : Ex G' H'
  k : ∀ a o, ¬ M a → H a = some o → H' a = some o
  d : ∀ a, H a ≠ none → H' a ≠ none
  n : ∀ a, G a = none → H a ≠ none → G' a = none
abbrev NoM : Addr → Prop := fun _ => False
section
variable {M N : Addr → Prop} {G H G' H' G'' H'' : Hp} {p : Addr} {o : HO}
theorem Ste.refl (e : Ex G H) : Ste M G H G H := ⟨Ex.refl G, e, fun _ _ _ h => h, fun _ h => h, fun _ h _ => h⟩
theorem Ste.trans (a : Ste M G H G' H') (b : Ste M G' H' G'' H'') : Ste M G H G'' H'' :=
  ⟨a.g.trans b.g, b.h, fun x o m e => b.k x o m (a.k x o m e), fun x e => b.d x (a.d x e), fun x e q => b.n x (a.n x e q) (a.d x q)⟩
theorem Ste.imp (a : Ste M G H G' H') (h : ∀ x, M x → N x) : Ste N G H G' H' := ⟨a.g, a.h, fun x o m => a.k x o fun z => m (h x z), a.d, a.n⟩
theorem Ste.any (a : Ste NoM G H G' H') : Ste N G H G' H' := a.imp fun _ z => z.elim
theorem Ste.new (e : Ex G H) (hp : H p = none) : Ste M G H (upd G p o) (upd H p o) := by
  have gp : G p = none := by
    cases q : G p with
    | none => rfl
    | some u => have := e p u q; rw [hp] at this; cases this
  refine ⟨fun a u q => ?_, fun a u q => ?_, fun a u _ q => ?_, fun a q => ?_, fun a q r => ?_⟩
  · rw [upd_ne (ne_of_none q gp)]; exact q
  · by_cases h : a = p
    · subst h; rw [upd_same] at q; rw [upd_same]; exact q
    · rw [upd_ne h] at q; rw [upd_ne h]; exact e a u q
  · rw [upd_ne (ne_of_none q hp)]; exact q
  · by_cases h : a = p
    · subst h; rw [upd_same]; exact Option.some_ne_none _
    · rw [upd_ne h]; exact q
  · have h : a ≠ p := fun z => r (z ▸ hp)
    rw [upd_ne h]; exact q
/-- a new object that is not told (it will be changed) -/
theorem Ste.own (e : Ex G H) (hp : H p = none) : Ste M G H G (upd H p o) ∧ G p = none := by
  have gp : G p = none := by
    cases q : G p with
    | none => rfl
    | some u => have := e p u q; rw [hp] at this; cases this
  refine ⟨⟨Ex.refl G, fun a u q => ?_, fun a u _ q => ?_, fun a q => ?_, fun a q _ => q⟩, gp⟩
  · rw [upd_ne (ne_of_none q gp)]; exact e a u q
  · rw [upd_ne (ne_of_none q hp)]; exact q
  · by_cases h : a = p
    · subst h; rw [upd_same]; exact Option.some_ne_none _
    · rw [upd_ne h]; exact q
/-- an object that is not told is changed -/
theorem Ste.put (e : Ex G H) (gp : G p = none) (m : M p) : Ste M G H G (upd H p o) := by
  refine ⟨Ex.refl G, fun a u q => ?_, fun a u m' q => ?_, fun a q => ?_, fun a q _ => q⟩
  · rw [upd_ne (ne_of_none q gp)]; exact e a u q
  · rw [upd_ne (fun z => m' (by rw [z]; exact m))]; exact q
  · by_cases h : a = p
    · subst h; rw [upd_same]; exact Option.some_ne_none _
    · rw [upd_ne h]; exact q
/-- an object that was not told is told from here on -/
theorem ex_tell (e : Ex G H) (hp : H p = some o) : Ex (upd G p o) H := fun a u q => by
  by_cases h : a = p
  · subst h; rw [upd_same] at q; rw [hp]; exact q
  · rw [upd_ne h] at q; exact e a u q
theorem ex_upd (gp : G p = none) : Ex G (upd G p o) := fun a u q => by
  rw [upd_ne (ne_of_none q gp)]; exact q
theorem none_of_ex (e : Ex G H) (hp : H p = none) : G p = none := by
  cases q : G p with
  | none => rfl
  | some u => have := e p u q; rw [hp] at this; cases this
end

/-! ### what stays as a heap grows -/
section
variable {K : PySem.W.Frag} {G H : Hp} {a : Addr} {xs : List V}
theorem ex_at {o : HO} (e : Ex G H) (h : G a = some o) : H a = some o := e a o h
theorem ex_rd {u : HO} (e : Ex G H) (h : Rd G a u) : Rd H a u := h.elim (fun q => .inl (e _ _ q)) fun ⟨o, q⟩ => .inr ⟨o, e _ _ q⟩
theorem ex_sl (e : Ex G H) (h : SqL K G a xs) : SqL K H a xs := h.elim (fun q => .inl (ex_rd e q)) .inr
theorem ex_st (e : Ex G H) (h : SqT K G a xs) : SqT K H a xs := h.elim (fun q => .inl (ex_rd e q)) .inr
mutual
theorem ex_dp (e : Ex G H) : ∀ (d : PyData) (v : V), Dp K G v d → Dp K H v d
  | .none, _, .non => .non
  | .bool _, _, .bl b => .bl b
  | .int _, _, .int i => .int i
  | .str _, _, .str x => .str x
  | .list ds, _, .lst h q => .lst (ex_sl e h) (ex_dpA e ds _ q)
  | .tuple ds, _, .tup h q => .tup (ex_st e h) (ex_dpA e ds _ q)
theorem ex_dpA (e : Ex G H) : ∀ (ds : List PyData) (vs : List V), DpAll K G vs ds → DpAll K H vs ds
  | [], _, .nil => .nil
  | d :: ds, _, .cons h q => .cons (ex_dp e d _ h) (ex_dpA e ds _ q)
end
theorem dp_ints : ∀ ns : List Int, DpAll K H (ns.map V.int) (ns.map PyData.int)
  | [] => .nil
  | n :: ns => .cons (.int n) (dp_ints ns)
theorem sq_new {o : HO} (h : H a = some o) (e : o = .lst xs) : SqL K H a xs := .inl (.inl (e ▸ h))
theorem sl_of (h : H a = some (.lst xs)) : SqL K H a xs := .inl (.inl h)
theorem st_of (h : H a = some (.tup xs)) : SqT K H a xs := .inl (.inl h)
end

/-! ### the readings' steps, as they are -/
def rMkT : List V → Hp → VK → Prop := fun xs H Q => xs.length ≤ sizeLine ∧ ∀ p, H p = none → Q (.ref p) (upd H p (.tup xs))
def rMkL : List V → Hp → VK → Prop := fun xs H Q => xs.length ≤ sizeLine ∧ ∀ p, H p = none → Q (.ref p) (upd H p (.lst xs))
section
variable {σ : L2.St} {H : Hp} {Q : VK} {QA : List V → Hp → Prop} {QB : Bool → Hp → Prop} {ta tb te : TE} {t : TA} {tt tu : TT} {r : R2} {D : Ends} {ts tz : TS} {v x y : V} {K : PySem.W.Frag} {G : Hp}
theorem d_var {i : Nat} (h : σ[i]? = some (some v)) (q : Q v H) : tVar i σ H Q := ⟨v, h, q⟩
theorem d_c (q : Q v H) : tC v σ H Q := q
theorem d_nil (q : QA [] H) : tNil σ H QA := q
theorem d_cons (q : te σ H fun x H1 => t σ H1 fun xs H2 => QA (x :: xs) H2) : tCons te t σ H QA := q
theorem d_op (q : ta σ H fun x H1 => tb σ H1 fun y H2 => r x y H2 Q) : tOp r ta tb σ H Q := q
theorem d_un {f : V → Hp → VK → Prop} (q : ta σ H fun x H1 => f x H1 Q) : tUn f ta σ H Q := q
theorem d_cb {f : List V → Hp → VK → Prop} (q : t σ H fun vs H1 => f vs H1 Q) : tCB f t σ H Q := q
theorem d_call {sp : Sp} {E : XK} (q : t σ H fun vs H1 => sp vs H1 Q E) : tCall sp [] E t σ H Q := by
  unfold tCall
  simp only [List.append_nil]
  exact q
theorem d_tI {g : Int → Int → V} {i j : Int} (q : Q (g i j) H) : rI0 g (.int i) (.int j) H Q := ⟨i, j, rfl, rfl, q⟩
theorem d_tIC {C : Int → Int → Prop} {g : Int → Int → V} {i j : Int} (c : C i j) (q : Q (g i j) H) : rI C g (.int i) (.int j) H Q := ⟨i, j, rfl, rfl, c, q⟩
theorem d_neg {g : Int → V} {i : Int} (q : Q (g i) H) : rU g (.int i) H Q := ⟨i, rfl, q⟩
theorem d_eq (h : scal x y = true) (q : Q (.bl (decide (x = y))) H) : rEq x y H Q := ⟨h, q⟩
theorem d_ne (h : scal x y = true) (q : Q (.bl (!decide (x = y))) H) : rNe x y H Q := ⟨h, q⟩
theorem d_test (q : te σ H fun x H' => ∃ k, x = .bl k ∧ QB k H') : tTest te σ H QB := q
theorem d_tB (q : te σ H fun x H' => ∃ k, x = .bl k ∧ QB k H') : tB te σ H QB := q
theorem d_bl {b : Bool} {R : Bool → Prop} (q : R b) : ∃ k, V.bl b = .bl k ∧ R k := ⟨b, rfl, q⟩
theorem d_and (q : tt σ H fun c H1 => if c = true then tu σ H1 QB else QB false H1) : tAnd tt tu σ H QB := q
theorem d_or (q : tt σ H fun c H1 => if c = true then QB true H1 else tu σ H1 QB) : tOr tt tu σ H QB := q
theorem d_not (q : tt σ H fun c H1 => QB (!c) H1) : tNot tt σ H QB := q
theorem d_andV (q : ta σ H fun x H1 => ∃ c, x = .bl c ∧ if c = true then tb σ H1 Q else Q (.bl false) H1) : tAndV ta tb σ H Q := q
theorem d_orV (q : ta σ H fun x H1 => ∃ c, x = .bl c ∧ if c = true then Q (.bl true) H1 else tb σ H1 Q) : tOrV ta tb σ H Q := q
theorem d_notV (q : ta σ H fun x H1 => ∃ c, x = .bl c ∧ Q (.bl (!c)) H1) : tNotV ta σ H Q := q
theorem d_if (q : tt σ H fun c H1 => if c = true then ta σ H1 Q else tb σ H1 Q) : tIf tt ta tb σ H Q := q
theorem d_seq (q : ts { D with nx := tz D } σ H) : tSeq ts tz D σ H := q
theorem d_ret (q : te σ H D.rt) : tRet te D σ H := q
theorem d_drop (q : te σ H fun _ H1 => D.nx σ H1) : tDrop te D σ H := q
theorem d_asg {g : TG} (q : te σ H fun x H1 => g x σ H1 D.nx) : tAsg te g D σ H := q
theorem d_ifS (q : tt σ H fun b H1 => if b = true then ts D σ H1 else tz D σ H1) : tIfS tt ts tz D σ H := q
theorem d_next (q : D.nx σ H) : tNext D σ H := q
theorem d_name {i : Nat} {Qs : L2.St → Hp → Prop} (q : Qs (σ.set i (some v)) H) : gName i v σ H Qs := q
theorem d_gcons {g : TG} {u : TGs} {vs : List V} {Qs : L2.St → Hp → Prop} (q : g v σ H fun σ' H' => u vs σ' H' Qs) : gCons g u (v :: vs) σ H Qs := ⟨v, vs, rfl, q⟩
theorem d_gnil {Qs : L2.St → Hp → Prop} (q : Qs σ H) : gNil [] σ H Qs := ⟨rfl, q⟩
theorem d_gtup {n : Nat} {u : TGs} {a : Addr} {xs : List V} {Qs : L2.St → Hp → Prop} (h : SqT K H a xs) (l : xs.length = n) (q : u xs σ H Qs) : gTup K n u (.ref a) σ H Qs := ⟨a, xs, rfl, h, l, q⟩
theorem d_gsub {to ti : TE} {f : TSet} {Qs : L2.St → Hp → Prop} (q : to σ H fun o H1 => ti σ H1 fun i H2 => f o i v H2 fun H3 => Qs σ H3) : gSub to ti f v σ H Qs := q
theorem d_ixL {a : Addr} {xs : List V} {i : Int} (h : SqL K H a xs) (c : atI xs i = some v) (q : Q v H) : rIxL K (.ref a) (.int i) H Q := ⟨a, xs, i, v, rfl, rfl, h, c, q⟩
theorem d_ixT {a : Addr} {xs : List V} {i : Int} (h : SqT K H a xs) (c : atI xs i = some v) (q : Q v H) : rIxT K (.ref a) (.int i) H Q := ⟨a, xs, i, v, rfl, rfl, h, c, q⟩
theorem d_chain {r' : R2} {tc : TE} (q : ta σ H fun x H1 => tb σ H1 fun y H2 => r x y H2 fun z H3 => ∃ k, z = .bl k ∧ (if k = true then tc σ H3 fun w' H4 => r' y w' H4 Q else Q (.bl false) H3)) : tChain r r' ta tb tc σ H Q := q
theorem d_T {A B : Prop} {c : Bool} (hc : c = true) (h : A) : if c = true then A else B := by rw [if_pos hc]; exact h
theorem d_F {A B : Prop} {c : Bool} (hc : c = false) (h : B) : if c = true then A else B := by rw [hc, if_neg Bool.false_ne_true]; exact h
/-- a new object that is told from here on -/
theorem d_new {o : HO} {R : Addr → Hp → Prop} (e : Ex G H) (h : ∀ p G' H', Ste NoM G H G' H' → Ex G' H' → G' p = some o → R p H') : ∀ p, H p = none → R p (upd H p o) := fun p hp =>
  h p _ _ (Ste.new e hp) (Ste.new (M := NoM) e hp).h upd_same
theorem d_tup (q : t σ H fun xs H1 => rMkT xs H1 Q) : tTup t σ H Q := q
theorem d_lst (q : t σ H fun xs H1 => rMkL xs H1 Q) : tLst t σ H Q := q
end
theorem small_le {n : Nat} (h : n ≤ 100000) : n ≤ sizeLine := Nat.le_trans h (by decide)
theorem small_lt {n : Nat} (h : n < 100000) : n < sizeLine := Nat.lt_of_lt_of_le h (by decide)

end SP

namespace SP
open PySem PySem.Spec PyProof.Rows L2
/-! ### data at any depth, dicts too -/
def kD : Key → PyData
  | .inl i => .int i
  | .inr x => .str x
mutual
inductive Dq (K : PySem.W.Frag) (H : Hp) : V → PyData → Prop
  | non : Dq K H .non .none
  | bl (b : Bool) : Dq K H (.bl b) (.bool b)
  | int (i : Int) : Dq K H (.int i) (.int i)
  | str (x : Str) : Dq K H (.str x) (.str x)
  | lst {a : Addr} {xs : List V} {ds : List PyData} : SqL K H a xs → DqAll K H xs ds → Dq K H (.ref a) (.list ds)
  | tup {a : Addr} {xs : List V} {ds : List PyData} : SqT K H a xs → DqAll K H xs ds → Dq K H (.ref a) (.tuple ds)
  | dct {a : Addr} {ks : List Key} {xs : List V} {ds : List PyData} : ks.length = xs.length → Rd H a (.dK (ks.zip xs)) → DqAll K H xs ds → Dq K H (.ref a) (.dict ((ks.map kD).zip ds))
inductive DqAll (K : PySem.W.Frag) (H : Hp) : List V → List PyData → Prop
  | nil : DqAll K H [] []
  | cons {v : V} {vs : List V} {d : PyData} {ds : List PyData} : Dq K H v d → DqAll K H vs ds → DqAll K H (v :: vs) (d :: ds)
end
section
variable {K : PySem.W.Frag} {G H : Hp}
theorem DqAll.len : ∀ {xs : List V} {ds : List PyData}, DqAll K H xs ds → xs.length = ds.length
  | _, _, .nil => rfl
  | _, _, .cons _ q => congrArg (· + 1) q.len
mutual
theorem ex_dq (e : Ex G H) : ∀ {v : V} {d : PyData}, Dq K G v d → Dq K H v d
  | _, _, .non => .non
  | _, _, .bl b => .bl b
  | _, _, .int i => .int i
  | _, _, .str x => .str x
  | _, _, .lst h q => .lst (ex_sl e h) (ex_dqA e q)
  | _, _, .tup h q => .tup (ex_st e h) (ex_dqA e q)
  | _, _, .dct l h q => .dct l (ex_rd e h) (ex_dqA e q)
theorem ex_dqA (e : Ex G H) : ∀ {vs : List V} {ds : List PyData}, DqAll K G vs ds → DqAll K H vs ds
  | _, _, .nil => .nil
  | _, _, .cons h q => .cons (ex_dq e h) (ex_dqA e q)
end
theorem dq_ints : ∀ ns : List Int, DqAll K H (ns.map V.int) (ns.map PyData.int)
  | [] => .nil
  | n :: ns => .cons (.int n) (dq_ints ns)
theorem DqAll.get : ∀ {xs : List V} {ds : List PyData} {i : Nat} {x : V}, DqAll K H xs ds → xs[i]? = some x → ∃ d, ds[i]? = some d ∧ Dq K H x d
  | _, _, i, _, .nil, e => by simp at e
  | _, _, 0, _, .cons h _, e => by cases Option.some.inj e; exact ⟨_, rfl, h⟩
  | _, _, i + 1, _, .cons _ q, e => q.get (i := i) (by simpa using e)
theorem DqAll.app : ∀ {xs ys : List V} {ds es : List PyData}, DqAll K H xs ds → DqAll K H ys es → DqAll K H (xs ++ ys) (ds ++ es)
  | _, _, _, _, .nil, s => s
  | _, _, _, _, .cons h q, s => .cons h (q.app s)
theorem dq_three {xs : List V} {ds : List PyData} (h : DqAll K H xs ds) (l : xs.length = 3) : ∃ x0 x1 x2 d0 d1 d2, xs = [x0, x1, x2] ∧ ds = [d0, d1, d2] ∧ Dq K H x0 d0 ∧ Dq K H x1 d1 ∧ Dq K H x2 d2 := by
  cases h with
  | nil => cases l
  | cons h0 h =>
    cases h with
    | nil => cases l
    | cons h1 h =>
      cases h with
      | nil => cases l
      | cons h2 h =>
        cases h with
        | nil => exact ⟨_, _, _, _, _, _, rfl, rfl, h0, h1, h2⟩
        | cons _ _ => cases l
mutual
theorem Dq.dp : ∀ {v : V} {d : PyData}, Dq K H v d → d.hasDict = false → Dp K H v d
  | _, _, .non, _ => .non
  | _, _, .bl b, _ => .bl b
  | _, _, .int i, _ => .int i
  | _, _, .str x, _ => .str x
  | _, _, .lst h q, s => .lst h (q.dp (by simpa only [PyData.hasDict] using s))
  | _, _, .tup h q, s => .tup h (q.dp (by simpa only [PyData.hasDict] using s))
  | _, _, .dct _ _ _, s => by simp only [PyData.hasDict] at s; cases s
theorem DqAll.dp : ∀ {vs : List V} {ds : List PyData}, DqAll K H vs ds → PyData.hasDictAll ds = false → DpAll K H vs ds
  | _, _, .nil, _ => .nil
  | _, _, .cons h q, s => by
    simp only [PyData.hasDictAll, Bool.or_eq_false_iff] at s
    exact .cons (h.dp s.1) (q.dp s.2)
end
def tyName : PyData → String
  | .none => "NoneType"
  | .bool _ => "bool"
  | .int _ => "int"
  | .str _ => "str"
  | .list _ => "list"
  | .tuple _ => "tuple"
  | .dict _ => "dict"
theorem Dq.ty {v : V} {d : PyData} (h : Dq K H v d) : TyX K H v (.type (tyName d)) := by
  cases h with
  | non => exact .base .non
  | bl b => exact .base (.bl b)
  | int i => exact .base (.int i)
  | str x => exact .base (.str x)
  | lst h q =>
    rcases h with (h | ⟨o, h⟩) | ⟨o, its, n, hk, hc, r⟩
    · exact .base (.lst h)
    · exact .base (.frz h)
    · exact .kList hk hc
  | tup h q =>
    rcases h with (h | ⟨o, h⟩) | ⟨o, its, n, hk, hc, r⟩
    · exact .base (.tup h)
    · exact .fTuple h
    · exact .kTuple hk hc
  | dct l h q =>
    rcases h with h | ⟨o, h⟩
    · exact .base (.dK h)
    · exact .fDict h
end
/-! ### what repr reads -/
section
variable {X : Cx} {pins : List (Addr × Obj)} {σ : L2.St} {H : Hp} {s : Shared}
/-- the table of modules stands in the written part -/
def SysM (K : PySem.W.Frag) : Prop := ∃ o, K.lookup sysModules = some o ∧ o.cls = .type "dict"
theorem reads_keys : ∀ {ks : List Key} {es : List DictEntry} {vs : List (Key × Value)} {h : Heap}, Pairs (mixKind X.prog X.w) es vs → vs.map (·.1) = ks → ReadsAll h (es.map (·.key)) (ks.map kD) []
  | [], _, _, _, .nil, _ => .nil
  | _, _, _, _, .nil, e => by subst e; exact .nil
  | [], _, _, _, .cons _ _ _, e => by cases e
  | k :: ks, _, _, h, .cons (e := en) (kv := kv) h1 _ h3, e => by
    rw [List.map_cons] at e
    injection e with e1 e2
    have r := reads_keys (h := h) h3 e2
    subst e1
    have one : Reads h en.key (kD kv.1) [] := by
      rcases keyIs_shape h1 with ⟨i, t, e1, e2⟩ | ⟨x, t, e1, e2⟩
      · rw [e1, e2]; exact .int i t
      · rw [e1, e2]; exact .str x t
    exact ReadsAll.cons (as := []) (bs := []) one r
theorem vals_of_pairs : ∀ {es : List DictEntry} {vs : List (Key × Value)}, Pairs (mixKind X.prog X.w) es vs → es.map (·.val) = vs.map (·.2)
  | _, _, .nil => rfl
  | _, _, .cons _ h2 h3 => by rw [List.map_cons, List.map_cons, h2, vals_of_pairs h3]
theorem kv_keys : ∀ {ps : List (Key × V)} {vs : List (Key × Value)}, KV ps vs → vs.map (·.1) = ps.map (·.1)
  | _, _, .nil => rfl
  | _, _, .cons h r => by rw [List.map_cons, List.map_cons, h.1, kv_keys r]
theorem kv_vals : ∀ {ps : List (Key × V)} {vs : List (Key × Value)}, KV ps vs → Vals (ps.map (·.2)) (vs.map (·.2))
  | _, _, .nil => .nil
  | _, _, .cons h r => .cons h.2 (kv_vals r)
theorem no_sys (I : Inv X pins σ H s) (S : SysM X.K) {a : Addr} {u : HO} (h : Rd H a u) : sysModules ≠ a := fun e => by
  obtain ⟨o, lk, _⟩ := S
  have n := (I.bs _ _ (I.ok.mod.kin _ _ lk)).2
  rcases h with h | ⟨_, h⟩ <;> (rw [← e, n] at h; cases h)
mutual
theorem Dq.reads (I : Inv X pins σ H s) (S : SysM X.K) : ∀ {v : V} {d : PyData} {u : Value}, Dq X.K H v d → RelV v u → ∃ as, Reads s.heap u d as ∧ sysModules ∉ as
  | _, _, _, .non, r => by cases r; exact ⟨_, .none, List.not_mem_nil⟩
  | _, _, _, .bl b, r => by cases r; exact ⟨_, .bool b, List.not_mem_nil⟩
  | _, _, _, .int i, r => by obtain ⟨t, rfl⟩ := r; exact ⟨_, .int i t, List.not_mem_nil⟩
  | _, _, _, .str x, r => by obtain ⟨t, rfl⟩ := r; exact ⟨_, .str x t, List.not_mem_nil⟩
  | _, _, _, .lst (a := a) h q, r => by
    cases r
    obtain ⟨its, rv, ⟨o, n, ho, hc, _, hd⟩, _⟩ := I.list h
    obtain ⟨as, hr, hn⟩ := DqAll.reads I S q rv
    refine ⟨_, .list ho hc hd hr, fun m => ?_⟩
    rcases List.mem_cons.mp m with e | m
    · rcases h with h | ⟨o', its', n', hk, hc', r⟩
      · exact no_sys I S h e
      · obtain ⟨os, lk, c⟩ := S
        rw [← e] at hk
        rw [lk] at hk
        cases hk
        rw [c] at hc'
        injection hc' with z
        exact absurd z (by decide)
    · exact hn m
  | _, _, _, .tup h q, r => by
    cases r
    obtain ⟨its, rv, ⟨o, ho, hc, n, hd⟩, _⟩ := I.tuple h
    obtain ⟨as, hr, hn⟩ := DqAll.reads I S q rv
    exact ⟨_, .tuple ho hc hd hr, hn⟩
  | _, _, _, .dct (ks := ks) (xs := xs) l h q, r => by
    cases r
    obtain ⟨_, _, vs, kv, o, es, ep, ho, hx, hd, _, hp, _⟩ := h.ok I.hok
    have e1 : (ks.zip xs).map (·.1) = ks := List.map_fst_zip (Nat.le_of_eq l)
    have e2 : (ks.zip xs).map (·.2) = xs := List.map_snd_zip (Nat.le_of_eq l.symm)
    have rv := kv_vals kv
    rw [e2, ← vals_of_pairs hp] at rv
    obtain ⟨bs, hr, hn⟩ := DqAll.reads I S q rv
    have lq := q.len
    have f1 : ∀ ds : List PyData, xs.length = ds.length → ((ks.map kD).zip ds).map (·.1) = ks.map kD := fun ds e => List.map_fst_zip (by rw [List.length_map]; omega)
    have f2 : ∀ ds : List PyData, xs.length = ds.length → ((ks.map kD).zip ds).map (·.2) = ds := fun ds e => List.map_snd_zip (by rw [List.length_map]; omega)
    refine ⟨_, Reads.dict (as := []) (bs := bs) ho hx.1 hd (by rw [f1 _ lq]; exact reads_keys hp ((kv_keys kv).trans e1)) (by rw [f2 _ lq]; exact hr), fun m => ?_⟩
    rcases List.mem_cons.mp m with e | m
    · exact no_sys I S h e
    · exact hn m
theorem DqAll.reads (I : Inv X pins σ H s) (S : SysM X.K) : ∀ {vs : List V} {ds : List PyData} {us : List Value}, DqAll X.K H vs ds → Vals vs us → ∃ as, ReadsAll s.heap us ds as ∧ sysModules ∉ as
  | _, _, _, .nil, r => by cases r; exact ⟨_, .nil, List.not_mem_nil⟩
  | _, _, _, .cons h q, r => by
    cases r with
    | cons r1 r2 =>
      obtain ⟨as, h1, n1⟩ := h.reads I S r1
      obtain ⟨bs, h2, n2⟩ := q.reads I S r2
      exact ⟨_, .cons h1 h2, fun m => (List.mem_append.mp m).elim n1 n2⟩
end
/-- data that repr writes -/
structure Shown (d : PyData) : Prop where
  sh : d.showable = true
  sz : d.shown.length ≤ sizeLine
  dp : d.depth ≤ 60
def rReprQ (K : PySem.W.Frag) : List V → Hp → VK → Prop := fun xs H Q => ∃ x d, xs = [x] ∧ Dq K H x d ∧ Shown d ∧ Q (.str d.shown) H
theorem call_reprQ {k : Nat} (S : SysM X.K) (hr : Room k X.A) (gd : X.A.guards = some []) : CallR X (.builtin "repr") (rReprQ X.K) := by
  intro pins s σ H xs us Q I r h
  obtain ⟨x, d, rfl, hd, sh, q⟩ := h
  obtain ⟨u, rfl, rx⟩ := vals1 r
  have hu := hr.units
  have big : ∀ {a : Addr}, Dq X.K H (.ref a) d → wpAny (model X.prog X.w) X.A (call (.builtin "repr") [.ref a]) (EP X pins σ Q) X.xe s := fun {a} hd => by
    obtain ⟨as, rd, ns⟩ := hd.reads I S rfl
    exact repr_of_reads' rd sh.sh (fun _ => ns) gd (by have := sh.dp; omega) (fun _ _ e => e) (fun h' u tk hk => ⟨.str _, H, I.un (Un.kept hk) (I.hok.kept hk), ⟨_, rfl⟩, q⟩) sh.sz
  cases hd with
  | non => cases rx; exact PySem.P.repr_of_none ⟨.str _, H, I.tok _, ⟨_, rfl⟩, by rw [PyData.shown_none] at q; exact q⟩
  | bl b => cases rx; exact PySem.P.repr_of_bool ⟨.str _, H, I.tok _, ⟨_, rfl⟩, by rw [PyData.shown_bool] at q; cases b <;> exact q⟩
  | int i =>
    obtain ⟨t, rfl⟩ := rx
    have sz := sh.sh
    simp only [PyData.showable, decide_eq_true_eq] at sz
    exact PySem.P.repr_of_int sz ⟨.str _, H, I.tok _, ⟨_, rfl⟩, by rw [PyData.shown_int] at q; exact q⟩
  | str z =>
    obtain ⟨t, rfl⟩ := rx
    have sz := sh.sz
    rw [PyData.shown_str] at sz
    exact PySem.P.repr_of_str ⟨.str _, H, I.tok _, ⟨_, rfl⟩, by rw [PyData.shown_str] at q; exact q⟩ sz
  | lst h1 h2 => cases rx; exact big (.lst h1 h2)
  | tup h1 h2 => cases rx; exact big (.tup h1 h2)
  | dct h0 h1 h2 => cases rx; exact big (.dct h0 h1 h2)
end
end SP

namespace SP
open PySem PySem.Spec PyProof.Rows L2
/-! ### isinstance of data -/
@[reducible] def isI : PyData → Bool
  | .int _ => true
  | .bool _ => true
  | _ => false
@[reducible] def isB : PyData → Bool
  | .bool _ => true
  | _ => false
@[reducible] def isS : PyData → Bool
  | .str _ => true
  | _ => false
@[reducible] def isT : PyData → Bool
  | .tuple _ => true
  | _ => false
@[reducible] def isL : PyData → Bool
  | .list _ => true
  | _ => false
@[reducible] def isD : PyData → Bool
  | .dict _ => true
  | _ => false
section
variable {X : Cx} {K : PySem.W.Frag} {H : Hp} {Q : VK} {v : V} {d : PyData}
theorem d_isi {t T : String} {b : Bool} (h : TyX K H v (.type t)) (k : kitB t T = some b) (q : Q (.bl b) H) : rIsi K [v, .ty T] H Q := ⟨v, .ty T, _, _, b, rfl, .ty T, h, kit_ty k, q⟩
theorem d_isI (h : Dq K H v d) (q : Q (.bl (isI d)) H) : rIsi K [v, .ty "int"] H Q := by
  refine d_isi (b := isI d) h.ty ?_ q
  cases d <;> (simp only [tyName, isI]; decide +kernel)
theorem d_isB (h : Dq K H v d) (q : Q (.bl (isB d)) H) : rIsi K [v, .ty "bool"] H Q := by
  refine d_isi (b := isB d) h.ty ?_ q
  cases d <;> (simp only [tyName, isB]; decide +kernel)
theorem d_isS (h : Dq K H v d) (q : Q (.bl (isS d)) H) : rIsi K [v, .ty "str"] H Q := by
  refine d_isi (b := isS d) h.ty ?_ q
  cases d <;> (simp only [tyName, isS]; decide +kernel)
theorem d_isT (h : Dq K H v d) (q : Q (.bl (isT d)) H) : rIsi K [v, .ty "tuple"] H Q := by
  refine d_isi (b := isT d) h.ty ?_ q
  cases d <;> (simp only [tyName, isT]; decide +kernel)
theorem d_isL (h : Dq K H v d) (q : Q (.bl (isL d)) H) : rIsi K [v, .ty "list"] H Q := by
  refine d_isi (b := isL d) h.ty ?_ q
  cases d <;> (simp only [tyName, isL]; decide +kernel)
theorem d_isD (h : Dq K H v d) (q : Q (.bl (isD d)) H) : rIsi K [v, .ty "dict"] H Q := by
  refine d_isi (b := isD d) h.ty ?_ q
  cases d <;> (simp only [tyName, isD]; decide +kernel)
/-! ### short terms -/
theorem gcv {x : Str} {v : V} {pos : Pos} (h : ∃ u, X.mg x = some u ∧ RelV v u) (hg : Gl X x := by rfl) (hd : (x == ("__debug__" : Str)) = false := by decide) : PE X (.Name x pos) (tC v) := by
  obtain ⟨u, e, r⟩ := h
  exact pe_glob hg e r hd
theorem tyv (n : String) {pos : Pos} (hm : X.mg (Str.ofString n) = none) (hv : bootBuiltins (Str.ofString n) = some (.type n)) (hg : Gl X (Str.ofString n) := by rfl) (hn : (Str.ofString n) ≠ "__name__" := by decide) (hd : (Str.ofString n == ("__debug__" : Str)) = false := by decide) :
    PE X (.Name (Str.ofString n) pos) (tC (.ty n)) := pe_bltn hg hm hv rfl hn hd
end
/-- a value comes out, the heap grows -/
abbrev PQ (G H : Hp) (v : V) (Q : VK) : Prop := ∀ G' H', Ste NoM G H G' H' → Ex G' H' → Q v H'
mutual
def fitD : PyData → Prop
  | .str x => x.length ≤ 100000
  | .list xs => fitA xs
  | .tuple xs => fitA xs
  | _ => True
def fitA : List PyData → Prop
  | [] => True
  | x :: xs => fitD x ∧ fitA xs
end
/-- a test of one datum -/
def spT (K : PySem.W.Frag) (f : PyData → Bool) : Sp := fun vs H Q _ => ∃ v d G, vs = [v] ∧ Ex G H ∧ Dq K G v d ∧ fitD d ∧ PQ G H (.bl (f d)) Q
theorem d_spT {K : PySem.W.Frag} {f : PyData → Bool} {v : V} {d : PyData} {G H : Hp} {Q : VK} {E : XK} (e : Ex G H) (h : Dq K G v d) (l : fitD d) (q : ∀ G' H', Ste NoM G H G' H' → Ex G' H' → Q (.bl (f d)) H') : spT K f [v] H Q E := ⟨v, d, G, rfl, e, h, l, q⟩
theorem pq_fin {G H G' H' : Hp} {v v' : V} {Q : VK} (q : PQ G H v Q) (s : Ste NoM G H G' H') (h : v = v') : Q v' H' := h ▸ q G' H' s s.h
theorem d_all {K : PySem.W.Frag} {a : Addr} {bs : List Bool} {H : Hp} {Q : VK} (h : SqL K H a (bs.map V.bl)) (q : Q (.bl (bs.all id)) H) : rAll K [.ref a] H Q := ⟨a, bs, rfl, h, q⟩
end SP

namespace SP
open PySem PySem.Spec PyProof.Rows L2
/-! ### what a def owns: addresses that may change, and what is true of them -/
structure Own (M : Addr → Prop) (Ow : Hp → Hp → Prop) : Prop where
  frame : ∀ G H D o, ¬ M D → G D = none → Ow G H → Ow G (upd H D o)
  tell : ∀ G H D o, ¬ M D → G D = none → Ow G H → Ow (upd G D o) H
  step : ∀ G H G' H', Ste NoM G H G' H' → Ow G H → Ow G' H'
  has : ∀ G H a, Ow G H → M a → H a ≠ none
theorem Own.nil : Own NoM (fun _ _ => True) := ⟨fun _ _ _ _ _ _ _ => trivial, fun _ _ _ _ _ _ _ => trivial, fun _ _ _ _ _ _ => trivial, fun _ _ _ _ m => m.elim⟩
/-- the state behind some steps -/
structure At (M : Addr → Prop) (Ow : Hp → Hp → Prop) (G H G' H' : Hp) : Prop where
  s : Ste M G H G' H'
  e : Ex G' H'
  o : Ow G' H'
section
variable {M : Addr → Prop} {Ow : Hp → Hp → Prop} {G H : Hp} {J : It} {n : Nat} {Gd : Hp → Prop} {Y : Nat → Hp → V → Hp → Prop} {g : TG} {tt : TT} {te : TE} {tb : TS} {vs : List Nat} {σ : L2.St}
theorem At.refl (e : Ex G H) (o : Ow G H) : At M Ow G H G H := ⟨Ste.refl e, e, o⟩
theorem At.trans {G' H' G'' H'' : Hp} (a : At M Ow G H G' H') (b : At M Ow G' H' G'' H'') : At M Ow G H G'' H'' := ⟨a.s.trans b.s, b.e, b.o⟩
theorem At.step {G' H' G'' H'' : Hp} (ow : Own M Ow) (a : At M Ow G H G' H') (b : Ste NoM G' H' G'' H'') : At M Ow G H G'' H'' := ⟨a.s.trans b.any, b.h, ow.step _ _ _ _ b a.o⟩
/-- a comprehension -/
theorem lcS (ow : Own M Ow) (w : Walk J n Gd Y) (e : Ex G H) (o : Ow G H) (hz : n < 100000) (hGd : ∀ G' H', At M Ow G H G' H' → Gd H')
    (R : Nat → List V → Hp → Prop) (R0 : R 0 [] G) (hR : ∀ i acc G', R i acc G' → acc.length ≤ i) (rt : ∀ acc G1 G2, Ex G1 G2 → R n acc G1 → R n acc G2)
    (turn : ∀ i x acc G1 H1 H1', i < n → At M Ow G H G1 H1 → R i acc G1 → Y i H1 x H1' → ∀ (P : VK) (P' : Hp → Prop), (∀ y G4 H4, At M Ow G1 H1 G4 H4 → R (i + 1) (acc ++ [y]) G4 → P y H4) → (∀ G3 H3, At M Ow G1 H1 G3 H3 → R (i + 1) acc G3 → P' H3) →
      g x (wipe σ vs) H1' fun σ2 H2 => wipe σ2 vs = wipe σ vs ∧ tt σ2 H2 fun b H3 => if b = true then te σ2 H3 P else P' H3)
    {Qd : Addr → Hp → Prop} (done : ∀ D acc G' H', At M Ow G H G' H' → G' D = some (.lst acc) → R n acc G' → Qd D H') :
    ∀ D, H D = none → ∃ W : Nat → Nat → Hp → Prop, (∃ m, W 0 m (upd H D (.lst []))) ∧ ∀ i m H, W i m H →
      (J.stop i H ∧ Qd D H) ∨ (J.go i H ∧ ∃ Nx : Hp → Prop, (∀ H', Nx H' → ∃ m', m' < m ∧ W (i + 1) m' H') ∧ ∀ x H', J.yld i H x H' → g x (wipe σ vs) H' fun σ2 H2 => wipe σ2 vs = wipe σ vs ∧ tt σ2 H2 fun b H3 =>
        if b = true then te σ2 H3 fun y H4 => ∃ acc, H4 D = some (.lst acc) ∧ acc.length < sizeLine ∧ Nx (upd H4 D (.lst (acc ++ [y]))) else Nx H3) := by
  intro D hD
  have nM : ¬ M D := fun m => ow.has G H D o m hD
  obtain ⟨s0, gD⟩ := Ste.own (M := M) (o := .lst []) e hD
  refine lc_it w (fun i H1 => ∃ acc G1, H1 D = some (.lst acc) ∧ G1 D = none ∧ At M Ow G H G1 H1 ∧ R i acc G1) ⟨[], G, upd_same, gD, ⟨s0, s0.h, ow.frame _ _ _ _ nM gD o⟩, R0⟩ (fun i H1 _ ⟨_, _, _, _, a, _⟩ => hGd _ _ a) ?_ ?_
  · rintro i x H1 H1' hi ⟨acc, G1, h1, g1, a, r⟩ y
    have la := hR _ _ _ r
    have back : ∀ G4 H4, At M Ow G1 H1 G4 H4 → H4 D = some (.lst acc) ∧ G4 D = none := fun G4 H4 b => ⟨b.s.k D _ nM h1, b.s.n D g1 (by rw [h1]; exact Option.some_ne_none _)⟩
    refine turn i x acc G1 H1 H1' hi a r y _ _ (fun v G4 H4 b r4 => ?_) (fun G3 H3 b r3 => ?_)
    · obtain ⟨h4, g4⟩ := back G4 H4 b
      refine ⟨acc, h4, small_lt (by omega), acc ++ [v], G4, upd_same, g4, ?_, r4⟩
      have ab := a.trans b
      refine ⟨⟨ab.s.g, fun c u q => ?_, fun c u m q => ?_, fun c q => ?_, ab.s.n⟩, fun c u q => ?_, ow.frame _ _ _ _ nM g4 ab.o⟩
      · rw [upd_ne (ne_of_none q g4)]; exact ab.e c u q
      · rw [upd_ne (ne_of_none q hD)]; exact ab.s.k c u m q
      · by_cases z : c = D
        · subst z; exact (q hD).elim
        · rw [upd_ne z]; exact ab.s.d c q
      · rw [upd_ne (ne_of_none q g4)]; exact ab.e c u q
    · obtain ⟨h3, g3⟩ := back G3 H3 b
      exact ⟨acc, G3, h3, g3, a.trans b, r3⟩
  · rintro H1 ⟨acc, G1, h1, g1, a, r⟩
    have e1 : Ex (upd G1 D (.lst acc)) H1 := ex_tell a.e h1
    refine done D acc (upd G1 D (.lst acc)) H1 ⟨⟨a.s.g.trans (ex_upd g1), e1, a.s.k, a.s.d, fun c q z => ?_⟩, e1, ow.tell _ _ _ _ nM g1 a.o⟩ upd_same (rt _ _ _ (ex_upd g1) r)
    have cD : c ≠ D := fun y => z (y ▸ hD)
    rw [upd_ne cD]; exact a.s.n c q z
/-- a comprehension without a test: each item alone -/
theorem lcM (ow : Own M Ow) (w : Walk J n Gd Y) (e : Ex G H) (o : Ow G H) (hz : n < 100000) (hGd : ∀ G' H', At M Ow G H G' H' → Gd H')
    (R : Nat → V → Hp → Prop) (rt : ∀ i v G1 G2, Ex G1 G2 → R i v G1 → R i v G2)
    (turn : ∀ i x G1 H1 H1', i < n → At M Ow G H G1 H1 → Y i H1 x H1' → ∀ (P : VK), (∀ y G4 H4, At M Ow G1 H1 G4 H4 → R i y G4 → P y H4) → ∀ P' : Hp → Prop,
      g x (wipe σ vs) H1' fun σ2 H2 => wipe σ2 vs = wipe σ vs ∧ tt σ2 H2 fun b H3 => if b = true then te σ2 H3 P else P' H3)
    {Qd : Addr → Hp → Prop} (done : ∀ D acc G' H', At M Ow G H G' H' → G' D = some (.lst acc) → acc.length = n → (∀ i v, acc[i]? = some v → R i v G') → Qd D H') :
    ∀ D, H D = none → ∃ W : Nat → Nat → Hp → Prop, (∃ m, W 0 m (upd H D (.lst []))) ∧ ∀ i m H, W i m H →
      (J.stop i H ∧ Qd D H) ∨ (J.go i H ∧ ∃ Nx : Hp → Prop, (∀ H', Nx H' → ∃ m', m' < m ∧ W (i + 1) m' H') ∧ ∀ x H', J.yld i H x H' → g x (wipe σ vs) H' fun σ2 H2 => wipe σ2 vs = wipe σ vs ∧ tt σ2 H2 fun b H3 =>
        if b = true then te σ2 H3 fun y H4 => ∃ acc, H4 D = some (.lst acc) ∧ acc.length < sizeLine ∧ Nx (upd H4 D (.lst (acc ++ [y]))) else Nx H3) := by
  refine lcS ow w e o hz hGd (fun i acc G' => acc.length = i ∧ ∀ j v, acc[j]? = some v → R j v G') ⟨rfl, fun j v z => by simp at z⟩ (fun i acc G' r => Nat.le_of_eq r.1) (fun acc G1 G2 x r => ⟨r.1, fun j v z => rt _ _ _ _ x (r.2 j v z)⟩) ?_ fun D acc G' H' a d r => done D acc G' H' a d r.1 r.2
  intro i x acc G1 H1 H1' hi a r y P P' hP hP'
  refine turn i x G1 H1 H1' hi a y P (fun v G4 H4 b rv => hP v G4 H4 b ⟨by rw [List.length_append, r.1]; rfl, fun j u z => ?_⟩) P'
  by_cases hj : j < acc.length
  · rw [List.getElem?_append_left hj] at z
    exact rt _ _ _ _ b.s.g (r.2 j u z)
  · have l : j < (acc ++ [v]).length := (List.getElem?_eq_some_iff.mp z).1
    rw [List.length_append] at l
    have ej : j = acc.length := by simp only [List.length_cons, List.length_nil] at l; omega
    subst ej
    rw [List.getElem?_append_right (Nat.le_refl _), Nat.sub_self] at z
    cases Option.some.inj z
    rw [r.1]
    exact rv
end
/-! ### a source of numbers: a list of two ints that are not negative -/
structure Src (p : Addr) (G H : Hp) : Prop where
  g : G p = none
  h : ∃ a b : Int, H p = some (.lst [.int a, .int b]) ∧ 0 ≤ a ∧ 0 ≤ b ∧ b < 4294967296
theorem Own.src (p : Addr) : Own (fun a => a = p) (Src p) := by
  refine ⟨fun G H D o m gD s => ⟨s.g, ?_⟩, fun G H D o m gD s => ⟨?_, s.h⟩, fun G H G' H' st s => ⟨?_, ?_⟩, fun G H a s m => ?_⟩
  · obtain ⟨a, b, h, r⟩ := s.h
    exact ⟨a, b, by rw [upd_ne (fun z => m z.symm)]; exact h, r⟩
  · rw [upd_ne (fun z => m z.symm)]; exact s.g
  · obtain ⟨a, b, h, r⟩ := s.h
    exact st.n p s.g (by rw [h]; exact Option.some_ne_none _)
  · obtain ⟨a, b, h, r⟩ := s.h
    exact ⟨a, b, st.k p _ (fun z => z) h, r⟩
  · obtain ⟨x, y, h, _⟩ := s.h
    subst m
    rw [h]; exact Option.some_ne_none _
abbrev Sr (p : Addr) (G H G' H' : Hp) : Prop := At (fun a => a = p) (Src p) G H G' H'
end SP

namespace SP
open PySem PySem.Spec PyProof.Rows L2
/-! ### rules with a name for what they ask, and the steps over told heaps -/
def rLen (K : PySem.W.Frag) : List V → Hp → VK → Prop := fun xs H Q => ∃ x n, xs = [x] ∧ LenV K x H n ∧ Q (.int (n : Nat)) H
def rInSg : R2 := fun x y H Q => ∃ (c : Nat) (z : Str), x = .str ⟨#[c]⟩ ∧ y = .str z ∧ Q (.bl (decide (c ∈ z.cps.toList))) H
def rNiSg : R2 := fun x y H Q => ∃ (c : Nat) (z : Str), x = .str ⟨#[c]⟩ ∧ y = .str z ∧ Q (.bl (!decide (c ∈ z.cps.toList))) H
def rAbs : List V → Hp → VK → Prop := fun xs H Q => ∃ i, xs = [.int i] ∧ Q (.int (if i < 0 then -i else i)) H
def rMx2 : List V → Hp → VK → Prop := fun xs H Q => ∃ i j, xs = [.int i, .int j] ∧ Q (.int (if j > i then j else i)) H
def rMn2 : List V → Hp → VK → Prop := fun xs H Q => ∃ i j, xs = [.int i, .int j] ∧ Q (.int (if j < i then j else i)) H
def rIntOf : List V → Hp → VK → Prop := fun xs H Q => (∃ i, xs = [.int i] ∧ Q (.int i) H) ∨ ∃ k, xs = [.bl k] ∧ Q (.int (if k then 1 else 0)) H
def rDvm : List V → Hp → VK → Prop := fun xs H Q => ∃ i j, xs = [.int i, .int j] ∧ CDivP i j ∧ ∀ p, H p = none → Q (.ref p) (upd H p (.tup [.int (i / j), .int (i % j)]))
def rLstOf (K : PySem.W.Frag) : List V → Hp → VK → Prop := fun xs H Q => ∃ p ys, xs = [.ref p] ∧ (SqL K H p ys ∨ SqT K H p ys) ∧ ∀ l, H l = none → Q (.ref l) (upd H l (.lst ys))
def rTupOf (K : PySem.W.Frag) : List V → Hp → VK → Prop := fun xs H Q => ∃ p ys, xs = [.ref p] ∧ ((SqL K H p ys ∧ ∀ l, H l = none → Q (.ref l) (upd H l (.tup ys))) ∨ (SqT K H p ys ∧ Q (.ref p) H))
def rDctP (K : PySem.W.Frag) : List V → Hp → VK → Prop := fun xs H Q => ∃ (a : Addr) (ps : List Addr) (kvs : List (Key × V)), xs = [.ref a] ∧ SqL K H a (ps.map V.ref) ∧ Paired (fun p kv => SqT K H p [kV kv.1, kv.2]) ps kvs ∧ ∀ p, H p = none → Q (.ref p) (upd H p (.dK (mergeK [] kvs)))
def rDctD : List V → Hp → VK → Prop := fun xs H Q => ∃ (a : Addr) (kvs : List (Key × V)), xs = [.ref a] ∧ Rd H a (.dK kvs) ∧ ∀ p, H p = none → Q (.ref p) (upd H p (.dK kvs))
def rAddS : R2 := fun x y H Q => ∃ i j, x = .str i ∧ y = .str j ∧ i.length + j.length ≤ sizeLine ∧ Q (.str (i ++ j)) H
def rJoin (K : PySem.W.Frag) : V → List V → Hp → VK → Prop := fun x xs H Q => ∃ a p, ∃ ys : List Str, x = .str a ∧ xs = [.ref p] ∧ (SqL K H p (ys.map V.str) ∨ SqT K H p (ys.map V.str)) ∧ (ys.map (·.length)).sum + ys.length * a.length ≤ 16777216 ∧ Q (.str (Txt.join a ys)) H
/-- a def that a name holds: the promise goes with the address -/
structure HeldG (P : Program) (w : World) (K : PySem.W.Frag) (mg : Str → Option Value) (base : Heap) (k : Nat) (f : Addr) (sp : Sp) : Prop where
  ex : ∃ (fd : FuncData) (ps : List Str), FnG P w K mg base CX0 k f fd ps sp ∧ PySem.W.keepIn K (.ref f) = true ∧ Binds K fd ps []
def tCallH (P : Program) (w : World) (K : PySem.W.Frag) (mg : Str → Option Value) (base : Heap) (k i : Nat) (t : TA) : TE := fun σ H Q => ∃ f sp, σ[i]? = some (some (.ref f)) ∧ HeldG P w K mg base k f sp ∧ t σ H fun vs H1 => sp vs H1 Q E0
theorem pe_callHd {X : Cx} {k i : Nat} {x : Str} {p pos : Pos} {e : Expr} {es : List Expr} {t : TA} (hr : Room k X.A) (gd : X.A.guards = some []) (hN : X.N[i]? = some x) (hv : Vis X.env.scope x) (ha : PA X (e :: es) t)
    (hdb : (x == ("__debug__" : Str)) = false := by decide) (hcd : (x == ("__classdict__" : Str)) = false := by decide)
    (he : starEach (e :: es) X.env = (false, eval e X.env) :: starEach es X.env := by rfl) (hpl : (backTo pos (starEach es X.env)).any (·.1) = false := by rfl) :
    PE X (.Call (.Name x p) (e :: es) [] pos) (tCallH X.prog X.w X.K X.mg X.base k i t) := by
  refine ⟨fun pins s σ H Q I h => ?_⟩
  obtain ⟨f, sp, hs, hh, ht⟩ := h
  obtain ⟨fd, ps, F, hk, hb⟩ := hh.ex
  refine wpAny_Call_Name_kw (thn ((pe_var (pos := p) hN hv hdb hcd).run pins s σ H (fun v H1 => v = .ref f ∧ H1 = H) I ⟨.ref f, hs, rfl, rfl⟩) fun u s1 ⟨v, H1, I1, r1, q1⟩ => ?_)
  obtain ⟨rfl, rfl⟩ := q1
  cases r1
  refine PySem.W.callWith_K (h₀ := X.base) I.ok.mod.kin hk (thn (ha.run pos pins s1 σ _ _ I1 ht) fun us s2 ⟨vs, H2, I2, r, q⟩ => ⟨I2.kIn, ?_⟩) he hpl
  exact runG (dvs := []) (ds := []) F hr gd hb .nil pass0' I2 r (by rw [List.append_nil]; exact q)
section
variable {X : Cx}
theorem c_len : CallR X (.builtin "len") (rLen X.K) := call_len
theorem o_inSg : OpR X (compareOp .In) rInSg := op_in_sign
theorem o_niSg : OpR X (compareOp .NotIn) rNiSg := op_notIn_sign
theorem c_abs : CallR X (.builtin "abs") rAbs := call_abs
theorem c_max2 (hc : X.calm = true) : CallR X (.builtin "max") rMx2 := call_max2 hc
theorem c_min2 (hc : X.calm = true) : CallR X (.builtin "min") rMn2 := call_min2 hc
theorem c_int : CallR X (.type "int") rIntOf := call_int1
theorem c_divmod : CallR X (.builtin "divmod") rDvm := call_divmodW
theorem c_list : CallR X (.type "list") (rLstOf X.K) := call_list_of
theorem c_tuple : CallR X (.type "tuple") (rTupOf X.K) := call_tuple_of
theorem c_dictP (hc : X.calm = true) : CallR X (.type "dict") (rDctP X.K) := call_dictP hc
theorem c_dictD : CallR X (.type "dict") rDctD := call_dictD
theorem o_addS : OpR X (binaryOp .Add) rAddS := op_add_str
/-- // by any number but 0, of fewer than 9000 bits -/
def CDivX (_ j : Int) : Prop := j ≠ 0 ∧ j.natAbs.log2 < 9000
theorem op_fdivX : OpR X (binaryOp .FloorDiv) (rI CDivX fun i j => .int (i.fdiv j)) := opI fun _ _ _ _ _ _ _ hc q => floordiv_int hc.1 q (.inl (PyProof.noPylong_of_log2 hc.2))
end
section
variable {σ : L2.St} {G H : Hp} {Q : VK} {K : PySem.W.Frag} {x y v : V} {a : Addr} {xs ys : List V} {ta tb te to tx ty : TE}
theorem d_len1 {z : Str} (h : z.length ≤ 100000) (q : Q (.int (z.length : Nat)) H) : rLen K [.str z] H Q := ⟨.str z, z.length, rfl, ⟨small_le h, rfl⟩, q⟩
theorem d_len2 (h : SqT K H a xs) (q : Q (.int (xs.length : Nat)) H) : rLen K [.ref a] H Q := ⟨.ref a, xs.length, rfl, .inr ⟨xs, h, rfl⟩, q⟩
theorem d_len3 (h : SqL K H a xs) (q : Q (.int (xs.length : Nat)) H) : rLen K [.ref a] H Q := ⟨.ref a, xs.length, rfl, .inl ⟨xs, h, rfl⟩, q⟩
theorem d_inSg {c : Nat} {z : Str} (q : Q (.bl (decide (c ∈ z.cps.toList))) H) : rInSg (.str ⟨#[c]⟩) (.str z) H Q := ⟨c, z, rfl, rfl, q⟩
theorem d_niSg {c : Nat} {z : Str} (q : Q (.bl (!decide (c ∈ z.cps.toList))) H) : rNiSg (.str ⟨#[c]⟩) (.str z) H Q := ⟨c, z, rfl, rfl, q⟩
theorem d_abs {i : Int} (q : Q (.int i.natAbs) H) : rAbs [.int i] H Q := ⟨i, rfl, by
  have e : (if i < 0 then -i else i) = (i.natAbs : Int) := by split <;> omega
  rw [e]; exact q⟩
theorem d_max {i j : Int} (q : Q (.int (max i j)) H) : rMx2 [.int i, .int j] H Q := ⟨i, j, rfl, by
  have e : (if j > i then j else i) = max i j := by split <;> omega
  rw [e]; exact q⟩
theorem d_min {i j : Int} (q : Q (.int (min i j)) H) : rMn2 [.int i, .int j] H Q := ⟨i, j, rfl, by
  have e : (if j < i then j else i) = min i j := by split <;> omega
  rw [e]; exact q⟩
theorem d_int1 {i : Int} (q : Q (.int i) H) : rIntOf [.int i] H Q := .inl ⟨i, rfl, q⟩
theorem d_int2 {b : Bool} (q : Q (.int (if b then 1 else 0)) H) : rIntOf [.bl b] H Q := .inr ⟨b, rfl, q⟩
theorem d_dvm {i j : Int} (hj : 0 < j) (hl : j.natAbs.log2 < 9000) (e : Ex G H) (q : ∀ p G' H', Ste NoM G H G' H' → Ex G' H' → G' p = some (.tup [.int (i / j), .int (i % j)]) → Q (.ref p) H') : rDvm [.int i, .int j] H Q :=
  ⟨i, j, rfl, ⟨hj, PyProof.noPylong_of_log2 hl⟩, d_new (R := fun p H => Q (.ref p) H) e q⟩
theorem d_lstL (h : SqL K H a xs) (e : Ex G H) (q : ∀ p G' H', Ste NoM G H G' H' → Ex G' H' → G' p = some (.lst xs) → Q (.ref p) H') : rLstOf K [.ref a] H Q := ⟨a, xs, rfl, .inl h, d_new (R := fun p H => Q (.ref p) H) e q⟩
theorem d_tupL (h : SqL K H a xs) (e : Ex G H) (q : ∀ p G' H', Ste NoM G H G' H' → Ex G' H' → G' p = some (.tup xs) → Q (.ref p) H') : rTupOf K [.ref a] H Q := ⟨a, xs, rfl, .inl ⟨h, d_new (R := fun p H => Q (.ref p) H) e q⟩⟩
theorem d_tupT (h : SqT K H a xs) (q : Q (.ref a) H) : rTupOf K [.ref a] H Q := ⟨a, xs, rfl, .inr ⟨h, q⟩⟩
theorem d_dctP {ps : List Addr} {kvs : List (Key × V)} (h : SqL K H a (ps.map V.ref)) (hp : Paired (fun p kv => SqT K H p [kV kv.1, kv.2]) ps kvs) (q : ∀ p, H p = none → Q (.ref p) (upd H p (.dK (mergeK [] kvs)))) : rDctP K [.ref a] H Q := ⟨a, ps, kvs, rfl, h, hp, q⟩
theorem d_dctD {kvs : List (Key × V)} (h : Rd H a (.dK kvs)) (q : ∀ p, H p = none → Q (.ref p) (upd H p (.dK kvs))) : rDctD [.ref a] H Q := ⟨a, kvs, rfl, h, q⟩
theorem d_addS {i j : Str} (h : i.length + j.length ≤ 100000) (q : Q (.str (i ++ j)) H) : rAddS (.str i) (.str j) H Q := ⟨i, j, rfl, rfl, small_le h, q⟩
theorem d_inL {b : Bool} (h : SqL K H a xs) (f1 : flatV x = true) (f2 : xs.all flatV = true) (q : Q (.bl (if b then !inV x xs else inV x xs)) H) : rIn K b x (.ref a) H Q := ⟨a, xs, rfl, .inl h, f1, f2, q⟩
theorem d_inT {b : Bool} (h : SqT K H a xs) (f1 : flatV x = true) (f2 : xs.all flatV = true) (q : Q (.bl (if b then !inV x xs else inV x xs)) H) : rIn K b x (.ref a) H Q := ⟨a, xs, rfl, .inr h, f1, f2, q⟩
theorem d_mkT (h : xs.length ≤ 100000) (e : Ex G H) (q : ∀ p G' H', Ste NoM G H G' H' → Ex G' H' → G' p = some (.tup xs) → Q (.ref p) H') : rMkT xs H Q := ⟨small_le h, d_new (R := fun p H => Q (.ref p) H) e q⟩
theorem d_mkL (h : xs.length ≤ 100000) (e : Ex G H) (q : ∀ p G' H', Ste NoM G H G' H' → Ex G' H' → G' p = some (.lst xs) → Q (.ref p) H') : rMkL xs H Q := ⟨small_le h, d_new (R := fun p H => Q (.ref p) H) e q⟩
theorem d_slL {lo hi : Option Int} (h : SqL K H a xs) (e : Ex G H) (q : ∀ p G' H', Ste NoM G H G' H' → Ex G' H' → G' p = some (.lst (cutV xs lo hi)) → Q (.ref p) H') : rSlL K (.ref a) lo hi H Q := ⟨a, xs, rfl, h, d_new (R := fun p H => Q (.ref p) H) e q⟩
theorem d_m1 {r : V → List V → Hp → VK → Prop} (q : to σ H fun x H1 => (∃ a, x = .str a) ∧ te σ H1 fun y H2 => r x [y] H2 Q) : tM1 r to te σ H Q := q
theorem d_ixS {z : Str} {i : Int} {c : Nat} (h : z.length ≤ 100000) (a : atI z.cps.toList i = some c) (q : Q (.str ⟨#[c]⟩) H) : rIxS (.str z) (.int i) H Q := ⟨z, i, c, rfl, rfl, small_le h, a, q⟩
theorem d_sl {r : V → Option Int → Option Int → Hp → VK → Prop} {tl th : TO} (q : te σ H fun x H1 => tl σ H1 fun lo H2 => th σ H2 fun hi H3 => r x lo hi H3 Q) : tSl r te tl th σ H Q := q
theorem d_po0 {Qo : Option Int → Hp → Prop} (q : Qo none H) : tNoPart σ H Qo := q
theorem d_po1 {Qo : Option Int → Hp → Prop} (q : te σ H fun x H1 => ∃ i, x = .int i ∧ Qo (some i) H1) : tPart te σ H Qo := q
theorem d_ei {i : Int} {R : Int → Prop} (q : R i) : ∃ j, V.int i = .int j ∧ R j := ⟨i, rfl, q⟩
theorem d_cat {b : Addr} (h1 : H a = some (.lst xs)) (h2 : H b = some (.lst ys)) (hz : xs.length + ys.length ≤ 100000) (e : Ex G H) (q : ∀ p G' H', Ste NoM G H G' H' → Ex G' H' → G' p = some (.lst (xs ++ ys)) → Q (.ref p) H') : rCat (.ref a) (.ref b) H Q :=
  ⟨a, b, xs, ys, rfl, rfl, h1, h2, small_le hz, d_new (R := fun p H => Q (.ref p) H) e q⟩
theorem d_rep {k : Int} (h : H a = some (.lst xs)) (h0 : 0 ≤ k) (h1 : k ≤ 1000) (hz : xs.length ≤ 100) (e : Ex G H) (q : ∀ p G' H', Ste NoM G H G' H' → Ex G' H' → G' p = some (.lst (List.replicate k.toNat xs).flatten) → Q (.ref p) H') : rRep (.ref a) (.int k) H Q :=
  ⟨a, k, xs, rfl, rfl, h, by omega, by omega, Nat.le_trans (Nat.mul_le_mul hz (show k.toNat ≤ 1000 by omega)) (by decide), d_new (R := fun p H => Q (.ref p) H) e q⟩
theorem d_dget2 (q : td σ H fun x H1 => ∃ a, x = .ref a ∧ IsD H1 a ∧ ty σ H1 fun y H2 => tx σ H2 fun z H3 => ∃ o, DGet H3 a y o ∧ Q (o.getD z) H3) : tDGet2 td ty tx σ H Q := q
theorem d_callN {sp : Sp} {gV : List V → List V → List V} {n m : Nat} {E : XK} {t tk : TA} (q : t σ H fun vs H1 => tk σ H1 fun zs H2 => vs.length = n ∧ zs.length = m ∧ sp (gV vs zs) H2 Q E) : tCallN n m sp gV E t tk σ H Q := q
theorem d_reprQ {d : PyData} (h : Dq K H x d) (s : Shown d) (q : Q (.str d.shown) H) : rReprQ K [x] H Q := ⟨x, d, rfl, h, s, q⟩
theorem d_revL (q : te σ H fun x H1 => ∃ a xs, x = .ref a ∧ SqL K H1 a xs ∧ ∀ p, H1 p = none → Q (.ref p) (upd H1 p (.lst xs.reverse))) : tRevL K te σ H Q := q
end
section
variable {K : PySem.W.Frag} {p a : Addr} {xs : List V} {v : V} {i : Int} {j : Nat} {G H G' H' : Hp} {Q : Hp → Prop}
theorem d_setL {ys : List V} (h : H p = some (.lst xs)) (c : ixN xs.length i = some j) (y : xs.set j v = ys) (q : ∀ H', H' = upd H p (.lst ys) → H' p = some (.lst ys) → Q H') : rSetL (.ref p) (.int i) v H Q := ⟨p, xs, i, j, rfl, rfl, h, c, y ▸ q _ rfl upd_same⟩
theorem at_int {α : Type} {xs : List α} {d : Int} {v : α} (h0 : 0 ≤ d) (h : xs[d.toNat]? = some v) : atI xs d = some v := by
  have e := atI_nat h
  rw [Int.toNat_of_nonneg h0] at e
  exact e
theorem d_own {R : VK} (e : Ex G H) (h : xs.length ≤ 100000) (q : ∀ p H', Ste NoM G H G H' → G p = none → H' p = some (.lst xs) → R (.ref p) H') : rMkL xs H R :=
  ⟨small_le h, fun p hp => q p _ (Ste.own e hp).1 (Ste.own (M := NoM) (o := .lst xs) e hp).2 upd_same⟩
theorem sr_put {x y : Int} (a : Sr p G H G' H') (hx : 0 ≤ x) (hy : 0 ≤ y) (hz : y < 4294967296) : Sr p G H G' (upd H' p (.lst [.int x, .int y])) :=
  ⟨a.s.trans (Ste.put a.e a.o.g rfl), (Ste.put (M := fun a => a = p) a.e a.o.g rfl).h, ⟨a.o.g, x, y, upd_same, hx, hy, hz⟩⟩
end
theorem d_cut {t u : TS} {D : Ends} {σ : L2.St} {H : Hp} (Mid : L2.St → Hp → Prop) (h : t { D with nx := Mid } σ H) (k : ∀ σ' H', Mid σ' H' → u D σ' H') : C8.tCut t u D σ H := ⟨Mid, h, k⟩
/-- for _ in range(n) -/
theorem d_lc {wi : TI} {g : TG} {tt : TT} {te : TE} {vs : List Nat} {σ : L2.St} {H : Hp} {Q : VK} (q : wi σ H fun J H1 => ∀ D, H1 D = none → ∃ W : Nat → Nat → Hp → Prop, (∃ m, W 0 m (upd H1 D (.lst []))) ∧ ∀ i m H, W i m H →
  (J.stop i H ∧ Q (.ref D) H) ∨ (J.go i H ∧ ∃ Nx : Hp → Prop, (∀ H', Nx H' → ∃ m', m' < m ∧ W (i + 1) m' H') ∧ ∀ x H', J.yld i H x H' → g x (wipe σ vs) H' fun σ2 H2 => wipe σ2 vs = wipe σ vs ∧ tt σ2 H2 fun b H3 =>
    if b = true then te σ2 H3 fun y H4 => ∃ acc, H4 D = some (.lst acc) ∧ acc.length < sizeLine ∧ Nx (upd H4 D (.lst (acc ++ [y]))) else Nx H3)) : tLc wi g tt te vs σ H Q := q
theorem d_iStr {te : TE} {σ : L2.St} {H : Hp} {R : It → Hp → Prop} (q : te σ H fun v H1 => ∃ x, v = .str x ∧ R (Its x) H1) : iStr te σ H R := q
theorem d_wipe {a b : L2.St} {vs : List Nat} {B : Prop} (h : wipe a vs = wipe b vs) (q : B) : wipe a vs = wipe b vs ∧ B := ⟨h, q⟩
theorem d_es {z : Str} {R : Str → Prop} (q : R z) : ∃ x, V.str z = .str x ∧ R x := ⟨z, rfl, q⟩
theorem d_yes {σ : L2.St} {H : Hp} {Q : Bool → Hp → Prop} (q : Q true H) : tYes σ H Q := q
theorem d_iList {K : PySem.W.Frag} {tl : TE} {σ : L2.St} {H : Hp} {R : It → Hp → Prop} (q : tl σ H fun x H1 => ∃ a, x = .ref a ∧ (∃ xs, SqL K H1 a xs) ∧ R (Itl K a) H1) : iList K tl σ H R := q
theorem d_il {K : PySem.W.Frag} {a : Addr} {xs : List V} {H : Hp} {R : Addr → Prop} (h : SqL K H a xs) (q : R a) : ∃ b, V.ref a = .ref b ∧ (∃ xs, SqL K H b xs) ∧ R b := ⟨a, rfl, ⟨xs, h⟩, q⟩
theorem d_iRng1 {ta : TA} {σ : L2.St} {H : Hp} {R : It → Hp → Prop} (q : ta σ H fun vs H1 => ∃ j : Int, vs = [.int j] ∧ -(2 ^ 62) ≤ j ∧ j < 2 ^ 62 ∧ R (Itr 0 j.toNat) H1) : iRng1 ta σ H R := q
theorem d_ir {j : Int} {R : Int → Prop} (h1 : -1000000 ≤ j) (h2 : j ≤ 1000000) (q : R j) : ∃ i : Int, [V.int j] = [.int i] ∧ -(2 ^ 62) ≤ i ∧ i < 2 ^ 62 ∧ R i := ⟨j, rfl, by omega, by omega, q⟩
theorem d_forS {wi : TI} {g : TG} {tb : TS} {D : Ends} {σ : L2.St} {H : Hp} (q : wi σ H fun J H1 => ∃ W : Nat → Nat → L2.St → Hp → Prop, (∃ m, W 0 m σ H1) ∧ ∀ i m σ H, W i m σ H →
  (J.stop i H ∧ D.nx σ H) ∨ (J.go i H ∧ ∃ N : L2.St → Hp → Prop, (∀ σ' H', N σ' H' → ∃ m', m' < m ∧ W (i + 1) m' σ' H') ∧ ∀ x H', J.yld i H x H' → g x σ H' fun σ2 H2 => tb { D with nx := N, ct := N, bk := D.nx } σ2 H2)) : tFor wi g tb D σ H := q
end SP

namespace SP
open PySem PySem.Spec PyProof.Rows L2
/-! ### the rules with the written part named (within a comprehension's block it is the def's own) -/
section
variable {X : Cx} (K : PySem.W.Frag)
theorem k_ix_list (h : X.K = K := by rfl) : IxR X (rIxL K) := h ▸ ix_list
theorem k_ix_tup (h : X.K = K := by rfl) : IxR X (rIxT K) := h ▸ ix_tup
theorem k_in_seq (h : X.K = K := by rfl) : OpR X (compareOp .In) (rIn K false) := h ▸ op_in_seq
theorem k_notIn_seq (h : X.K = K := by rfl) : OpR X (compareOp .NotIn) (rIn K true) := h ▸ op_notIn_seq
theorem k_len (h : X.K = K := by rfl) : CallR X (.builtin "len") (rLen K) := h ▸ c_len
theorem k_list (h : X.K = K := by rfl) : CallR X (.type "list") (rLstOf K) := h ▸ c_list
theorem k_tuple (h : X.K = K := by rfl) : CallR X (.type "tuple") (rTupOf K) := h ▸ c_tuple
theorem k_isi (h : X.K = K := by rfl) : CallR X (.builtin "isinstance") (rIsi K) := h ▸ call_isi
theorem k_all (hc : X.calm = true) (h : X.K = K := by rfl) : CallR X (.builtin "all") (rAll K) := h ▸ cr_all hc
theorem k_any (hc : X.calm = true) (h : X.K = K := by rfl) : CallR X (.builtin "any") (rAny K) := h ▸ cr_any hc
theorem k_eqD (hu : X.A.units + 64 < cLine) (h : X.K = K := by rfl) : OpR X (compareOp .Eq) (rEqD K) := h ▸ op_eqD hu
theorem k_neD (hu : X.A.units + 64 < cLine) (h : X.K = K := by rfl) : OpR X (compareOp .NotEq) (rNeD K) := h ▸ op_neD hu
theorem k_sl_list (h : X.K = K := by rfl) : SlR X (rSlL K) := h ▸ sl_list
theorem k_dictP (hc : X.calm = true) (h : X.K = K := by rfl) : CallR X (.type "dict") (rDctP K) := h ▸ c_dictP hc
theorem k_repr {k : Nat} (S : SysM K) (hr : Room k X.A) (gd : X.A.guards = some []) (h : X.K = K := by rfl) : CallR X (.builtin "repr") (rReprQ K) := by
  subst h; exact call_reprQ S hr gd
theorem k_tg {es : List Expr} {k : Nat} {t : TGs} {n : Nat} {pos : Pos} (hc : X.calm = true) (hp : PGs X es t) (hn : (assignEach es X.env).length = n := by rfl) (hst : (assignEach es X.env).findIdx? (·.1) = none := by rfl) (h : X.K = K := by rfl) : PG X (.Tuple es k pos) (gTup K n t) := h ▸ pg_tup hc hp hn hst
theorem k_for_list {tg l : Expr} {tl : TE} (hl : PE X l tl) (h : X.K = K := by rfl) : PI X tg l (iList K tl) := h ▸ pi_list hl
theorem k_for_tup {tg l : Expr} {tl : TE} (hl : PE X l tl) (h : X.K = K := by rfl) : PI X tg l (iTup K tl) := h ▸ pi_tup hl
theorem k_join {o e : Expr} {to te : TE} {apos pos : Pos} (ho : PE X o to) (he : PE X e te) (h : X.K = K := by rfl) (hs : starEach [e] X.env = [(false, eval e X.env)] := by rfl) (hbase : attributeBase o "join" X.env (eval o X.env) = eval o X.env := by rfl) (hline : (apos.endLine == pos.line) = true := by rfl) :
    PE X (.Call (.Attribute o "join" apos) [e] [] pos) (tM1 (rJoin K) to te) := h ▸ pe_join ho he hs hbase hline
theorem k_revL {e : Expr} {te : TE} {k : Nat} {p1 p2 p3 pos : Pos} (he : PE X e te) (hK : X.K = K := by rfl) :
    PE X (.Subscript e (.Slice none none (some (.UnaryOp .USub (.Constant (.int 1) k p1) p2)) p3) pos) (tRevL K te) := hK ▸ pe_revL he
end
end SP

namespace SP
open PySem PySem.Spec PyProof.Rows L2
/-! ### calls with keywords: the values in the order of the parameters -/
def prm {α : Type} (d : α) (is : List Nat) (l : List α) : List α := is.map fun i => l.getD i d
theorem val_get : ∀ {vs : List V} {us : List Value}, Vals vs us → ∀ i, RelV (vs.getD i .non) (us.getD i .none)
  | _, _, .nil, i => by cases i <;> exact rfl
  | _, _, .cons r h, 0 => r
  | _, _, .cons r h, i + 1 => val_get h i
theorem val_prm {vs : List V} {us : List Value} (h : Vals vs us) : ∀ is : List Nat, Vals (prm .non is vs) (prm .none is us)
  | [] => .nil
  | i :: is => .cons (val_get h i) (val_prm h is)
def KBf (K : PySem.W.Frag) (fd : FuncData) (ps : List Str) (n : Nat) (ks : List Str) (is : List Nat) : Prop := KBn K fd ps n ks (fun us ws => prm .none is (us ++ ws)) (fun vs zs => prm .non is (vs ++ zs))
theorem kbf_of {K : PySem.W.Frag} {x qual : Str} {st : Stmt} {f : Addr} {fd : FuncData} {ps ks : List Str} {n : Nat} {is : List Nat} (F : Fun K x qual st f fd)
    (h : ∀ (kV doc pm : Value) (an : Option Addr) (cdv ct : Value) (us ws : List Value), us.length = n → ws.length = ks.length → bindArgs (PySem.W.fnOf x qual (defArgs st) (defBody st) (defScope st) .none kV doc pm an cdv ct) ⟨us, ks.zip ws⟩ = pure (ps.zip (prm .none is (us ++ ws)))) : KBf K fd ps n ks is := by
  obtain ⟨oc, od, kV, doc, pm, an, cdv, ct, osl, rfl, lk, hcd⟩ := F.ex
  exact ⟨fun s us ws X l1 l2 => BindsTo.of_looks fun M => PySem.W.Looks.of_pure (h kV doc pm an cdv ct us ws l1 l2), fun r1 r2 => val_prm (r1.append r2) is⟩
/-- a def that is called with keywords -/
structure Kf (P : Program) (w : World) (K : PySem.W.Frag) (mg : Str → Option Value) (base : Heap) (CX : CXT) (k : Nat) (x : Str) (ps : List Str) (n : Nat) (ks : List Str) (is : List Nat) (sp : Sp) : Prop where
  ex : ∃ (f : Addr) (fd : FuncData), FnG P w K mg base CX k f fd ps sp ∧ mg x = some (.ref f) ∧ PySem.W.keepIn K (.ref f) = true ∧ KBf K fd ps n ks is
theorem Kf.up {P : Program} {w : World} {K : PySem.W.Frag} {mg : Str → Option Value} {base : Heap} {CX : CXT} {j k : Nat} {x : Str} {ps : List Str} {n : Nat} {ks : List Str} {is : List Nat} {sp : Sp} (D : Kf P w K mg base CX j x ps n ks is sp) (h : j ≤ k) : Kf P w K mg base CX k x ps n ks is sp := by
  obtain ⟨f, fd, F, r⟩ := D.ex
  exact ⟨f, fd, F.up h, r⟩
section
variable {X : Cx} {k n : Nat} {ps ks : List Str} {is : List Nat} {sp : Sp} {x : Str} {p pos : Pos} {e : Expr} {es : List Expr} {t tk : TA} {kws : List Keyword}
theorem clk0 (D : Kf X.prog X.w X.K X.mg X.base CX0 k x ps 0 ks is sp) (hr : Room k X.A) (gd : X.A.guards = some []) (hkw : PK X kws tk) (hg : Gl X x := by rfl)
    (hall : (backToKw pos (keywordEach kws X.env)).all (·.1.isSome) = true := by rfl) (hks : (backToKw pos (keywordEach kws X.env)).filterMap (·.1) = ks := by rfl)
    (hdb : (x == ("__debug__" : Str)) = false := by decide) (hpl : ((backTo pos (starEach [] X.env)).any (·.1) || (backToKw pos (keywordEach kws X.env)).any (·.1.isNone)) = false := by rfl) :
    PE X (.Call (.Name x p) [] kws pos) (tCallN 0 ks.length sp (fun vs zs => prm .non is (vs ++ zs)) E0 tNil tk) := by
  obtain ⟨f, fd, F, hm, hk, hb⟩ := D.ex
  exact pe_callGk0 F hr gd hg hm hk hb pass0' hkw hall hks hdb hpl
theorem clk (D : Kf X.prog X.w X.K X.mg X.base CX0 k x ps n ks is sp) (hr : Room k X.A) (gd : X.A.guards = some []) (ha : PA X (e :: es) t) (hkw : PK X kws tk) (hg : Gl X x := by rfl)
    (hall : (backToKw pos (keywordEach kws X.env)).all (·.1.isSome) = true := by rfl) (hks : (backToKw pos (keywordEach kws X.env)).filterMap (·.1) = ks := by rfl)
    (hdb : (x == ("__debug__" : Str)) = false := by decide) (he : starEach (e :: es) X.env = (false, eval e X.env) :: starEach es X.env := by rfl)
    (hpl : ((backTo pos (starEach (e :: es) X.env)).any (·.1) || (backToKw pos (keywordEach kws X.env)).any (·.1.isNone)) = false := by rfl) :
    PE X (.Call (.Name x p) (e :: es) kws pos) (tCallN n ks.length sp (fun vs zs => prm .non is (vs ++ zs)) E0 t tk) := by
  obtain ⟨f, fd, F, hm, hk, hb⟩ := D.ex
  exact pe_callGk F hr gd hg hm hk hb pass0' ha hkw hall hks hdb he hpl
end
/-! ### two and three names at once -/
section
variable {X : Cx}
theorem ps_parA {i j : Nat} {x y : Str} {a b : Expr} {ta : TA} {px py pt pos : Pos} {kt k2 pt2} (hN : X.N.Nodup) (ha : PA X [a, b] ta) (hc : X.calm = true := by rfl) (hi : X.N[i]? = some x := by rfl) (hj : X.N[j]? = some y := by rfl) (hij : i ≠ j := by decide)
    (hx : X.env.scope.names.lookup x = some .local := by rfl) (hy : X.env.scope.names.lookup y = some .local := by rfl)
    (hw : swappedStores [.Tuple [.Name x px, .Name y py] kt pt] (.Tuple [a, b] k2 pt2) X.env = pure (some [x, y]) := by rfl)
    (hs : swapsWithSole [.Tuple [.Name x px, .Name y py] kt pt] (.Tuple [a, b] k2 pt2) pos.line X.env = pure false := by rfl) :
    PS X (.Assign [.Tuple [.Name x px, .Name y py] kt pt] (.Tuple [a, b] k2 pt2) pos) (tPar i j ta) := ps_par hc hN hi hj hij hx hy ha hw hs
theorem ps_par3A {i j l : Nat} {x y z : Str} {a b c : Expr} {ta : TA} {px py pz pt pos : Pos} {kt k2 pt2} (hN : X.N.Nodup) (ha : PA X [a, b, c] ta) (hc : X.calm = true := by rfl) (hi : X.N[i]? = some x := by rfl) (hj : X.N[j]? = some y := by rfl) (hl : X.N[l]? = some z := by rfl)
    (hij : i ≠ j := by decide) (hil : i ≠ l := by decide) (hjl : j ≠ l := by decide)
    (hx : X.env.scope.names.lookup x = some .local := by rfl) (hy : X.env.scope.names.lookup y = some .local := by rfl) (hz : X.env.scope.names.lookup z = some .local := by rfl)
    (hw : swappedStores [.Tuple [.Name x px, .Name y py, .Name z pz] kt pt] (.Tuple [a, b, c] k2 pt2) X.env = pure (some [x, y, z]) := by rfl)
    (hs : swapsWithSole [.Tuple [.Name x px, .Name y py, .Name z pz] kt pt] (.Tuple [a, b, c] k2 pt2) pos.line X.env = pure false := by rfl) :
    PS X (.Assign [.Tuple [.Name x px, .Name y py, .Name z pz] kt pt] (.Tuple [a, b, c] k2 pt2) pos) (tPar3 i j l ta) := ps_par3 hc hN hi hj hl hij hil hjl hx hy hz ha hw hs
theorem d_par {i j : Nat} {ta : TA} {D : Ends} {σ : L2.St} {H : Hp} (q : ta σ H fun vs H1 => ∃ v w, vs = [v, w] ∧ D.nx ((σ.set i (some v)).set j (some w)) H1) : tPar i j ta D σ H := q
theorem d_par3 {i j l : Nat} {ta : TA} {D : Ends} {σ : L2.St} {H : Hp} (q : ta σ H fun vs H1 => ∃ u v w, vs = [u, v, w] ∧ D.nx (((σ.set i (some u)).set j (some v)).set l (some w)) H1) : tPar3 i j l ta D σ H := q
theorem d_e2 {a b : V} {R : V → V → Prop} (q : R a b) : ∃ v w, [a, b] = [v, w] ∧ R v w := ⟨a, b, rfl, q⟩
theorem d_e3 {a b c : V} {R : V → V → V → Prop} (q : R a b c) : ∃ u v w, [a, b, c] = [u, v, w] ∧ R u v w := ⟨a, b, c, rfl, q⟩
theorem d_kN {n m : Nat} {vs zs : List V} {A : Prop} (h1 : vs.length = n) (h2 : zs.length = m) (q : A) : vs.length = n ∧ zs.length = m ∧ A := ⟨h1, h2, q⟩
end
end SP

namespace SP
open PySem PySem.Spec PyProof.Rows L2
/-- the builtins' names are not taken -/
structure Blt (mg : Str → Option Value) : Prop where
  z_abs : mg "abs" = none
  z_len : mg "len" = none
  z_max : mg "max" = none
  z_min : mg "min" = none
  z_divmod : mg "divmod" = none
  z_range : mg "range" = none
  z_list : mg "list" = none
  z_tuple : mg "tuple" = none
  z_dict : mg "dict" = none
  z_str : mg "str" = none
  z_int : mg "int" = none
  z_bool : mg "bool" = none
  z_isinstance : mg "isinstance" = none
  z_repr : mg "repr" = none
  z_all : mg "all" = none
  z_any : mg "any" = none
  z_sum : mg "sum" = none
  z_sorted : mg "sorted" = none
  z_enumerate : mg "enumerate" = none
  z_zip : mg "zip" = none
  z_reversed : mg "reversed" = none
structure BltS (K : PySem.W.Frag) (mg : Str → Option Value) : Prop extends Blt mg where
  sm : SysM K
section
variable {K : PySem.W.Frag} {p L a : Addr} {o : HO} {G G1 H G' H' : Hp} {xs : List V}
/-- what was told since is dropped -/
theorem sr_forget (a : Sr p G1 H G' H') (x : Ex G G1) : Sr p G H G H' := by
  have e : Ex G H' := x.trans (a.s.g.trans a.e)
  refine ⟨⟨Ex.refl G, e, a.s.k, a.s.d, fun _ z _ => z⟩, e, ⟨?_, a.o.h⟩⟩
  have g := a.o.g
  cases q : G p with
  | none => rfl
  | some u =>
    have := a.s.g p u (x p u q)
    rw [g] at this
    cases this
/-- an own object that came in between is changed -/
theorem sr_upd (a : Sr p G H G' H') (hL : H L = none) (gL : G' L = none) (n : L ≠ p) : Sr p G H G' (upd H' L o) := by
  have e : Ex G' (upd H' L o) := fun c u q => by rw [upd_ne (ne_of_none q gL)]; exact a.e c u q
  refine ⟨⟨a.s.g, e, fun c u m q => ?_, fun c q => ?_, a.s.n⟩, e, ⟨a.o.g, ?_⟩⟩
  · rw [upd_ne (ne_of_none q hL)]; exact a.s.k c u m q
  · by_cases z : c = L
    · subst z; exact (q hL).elim
    · rw [upd_ne z]; exact a.s.d c q
  · obtain ⟨x, y, h, r⟩ := a.o.h
    exact ⟨x, y, by rw [upd_ne (fun z => n z.symm)]; exact h, r⟩
/-- steps behind which nothing more is told -/
structure Kp (p : Addr) (G H H' : Hp) : Prop where
  a : Sr p G H G H'
theorem Kp.e (k : Kp p G H H') : Ex G H' := k.a.e
theorem Kp.s (k : Kp p G H H') : Src p G H' := k.a.o
theorem Kp.own (e : Ex G H) (s : Src p G H) (t : Ste NoM G H G H') : Kp p G H H' := ⟨At.step (Own.src p) (At.refl e s) t⟩
theorem Kp.refl (e : Ex G H) (s : Src p G H) : Kp p G H H := ⟨At.refl e s⟩
theorem Kp.trans {J : Hp} (k : Kp p G H H') (l : Kp p G H' J) : Kp p G H J := ⟨k.a.trans l.a⟩
theorem Kp.forget (a : Sr p G1 H G' H') (x : Ex G G1) : Kp p G H H' := ⟨sr_forget a x⟩
theorem Kp.upd (k : Kp p G H H') (hL : H L = none) (gL : G L = none) (n : L ≠ p) : Kp p G H (upd H' L o) := ⟨sr_upd k.a hL gL n⟩
theorem src_ne (s : Src p G H) (h : H L = none) : L ≠ p := fun z => by
  obtain ⟨x, y, e, _⟩ := s.h
  rw [z, e] at h; cases h
theorem src_tell (s : Src p G H) (gL : G L = none) (n : L ≠ p) : Src p (upd G L o) H := (Own.src p).tell G H L o n gL s
theorem app_some {l : Addr} {y : V} {Q : VK} (h : H l = some (.lst xs)) (z : xs.length < 100000) (q : ∀ H', H' = upd H l (.lst (xs ++ [y])) → Q .non H') : rAppend (.ref l) [y] H Q := ⟨l, xs, y, rfl, rfl, h, small_lt z, q _ rfl⟩
theorem d_ltL (h : SqL K H a xs) (e : Ex G H) {Q : VK} (q : ∀ p H', Ste NoM G H G H' → G p = none → H p = none → H' = upd H p (.lst xs) → Q (.ref p) H') : rLstOf K [.ref a] H Q :=
  ⟨a, xs, rfl, .inl h, fun l hl => q l _ (Ste.own e hl).1 (Ste.own (M := NoM) (o := .lst xs) e hl).2 hl rfl⟩
end
theorem d_bm {K : PySem.W.Frag} {T : String} {r : V → List V → Hp → VK → Prop} {to : TE} {t : TA} {σ : L2.St} {H : Hp} {Q : VK} (q : to σ H fun x H1 => tyV K T x H1 ∧ t σ H1 fun xs H2 => r x xs H2 Q) : tBM K T r to t σ H Q := q
theorem d_tyL {K : PySem.W.Frag} {a : Addr} {xs : List V} {H : Hp} {A : Prop} (h : H a = some (.lst xs)) (q : A) : tyV K "list" (.ref a) H ∧ A := ⟨.inl ⟨rfl, xs, sl_of h⟩, q⟩
/-- a new object that is not told -/
theorem d_fresh {G H : Hp} {o : HO} {R : Addr → Hp → Prop} (e : Ex G H) (q : ∀ p H', H' = upd H p o → Ste NoM G H G H' → G p = none → H p = none → R p H') : ∀ p, H p = none → R p (upd H p o) := fun p hp =>
  q p _ rfl (Ste.own e hp).1 (Ste.own (M := NoM) (o := o) e hp).2 hp
theorem d_ownL {G H : Hp} {xs : List V} {R : VK} (e : Ex G H) (h : xs.length ≤ 100000) (q : ∀ p H', H' = upd H p (.lst xs) → Ste NoM G H G H' → G p = none → H p = none → R (.ref p) H') : rMkL xs H R :=
  ⟨small_le h, d_fresh (R := fun p H => R (.ref p) H) e q⟩
/-- an own source that was made and is dropped -/
theorem Ste.src {p : Addr} {G H G' H' H1 : Hp} (np : H p = none) (a : Ste NoM G H G H1) (b : Sr p G H1 G' H') : Ste NoM G H G' H' :=
  ⟨b.s.g, b.e, fun x o _ q => b.s.k x o (fun z => by rw [z, np] at q; cases q) (a.k x o (fun z => z) q), fun x q => b.s.d x (a.d x q), fun x z q => b.s.n x z (a.d x q)⟩
theorem none_back {M : Addr → Prop} {G H G' H' : Hp} {a : Addr} (s : Ste M G H G' H') (h : H' a = none) : H a = none := by
  cases q : H a with
  | none => rfl
  | some u => exact (s.d a (by rw [q]; exact Option.some_ne_none _) h).elim
theorem Kp.drop {p : Addr} {G G1 H H' : Hp} (k : Kp p G1 H H') (x : Ex G G1) : Kp p G H H' := .forget k.a x
theorem Kp.none {p a : Addr} {G H H' : Hp} (k : Kp p G H H') (h : H' a = none) : H a = .none := none_back k.a.s h
theorem Kp.raw {p a : Addr} {G H H' : Hp} {o : HO} (k : Kp p G H H') (n : a ≠ p) (h : H a = some o) : H' a = some o := k.a.s.k a o n h
theorem Kp.stf {p : Addr} {G G1 H G' H' : Hp} (e : Ex G1 H) (s : Src p G1 H) (x : Ex G G1) (t : Ste NoM G1 H G' H') : Kp p G H H' := .forget (At.step (Own.src p) (At.refl e s) t) x
theorem Ste.laid {M : Addr → Prop} {G H H' : Hp} (e : Ex G H) (h : ∀ b o, H b = some o → H' b = some o) : Ste M G H G H' :=
  ⟨Ex.refl G, fun a o q => h a o (e a o q), fun a o _ q => h a o q, fun a q => by
    cases z : H a with
    | none => exact (q z).elim
    | some u => rw [h a u z]; exact Option.some_ne_none _, fun _ z _ => z⟩
theorem paired_rev {α β : Type} {F : α → β → Prop} : ∀ {l₁ : List α} {l₂ : List β}, Paired F l₁ l₂ → Paired F l₁.reverse l₂.reverse
  | _, _, .nil => .nil
  | _, _, .cons h t => by rw [List.reverse_cons, List.reverse_cons]; exact (paired_rev t).snoc h
theorem paired_imp {α β : Type} {F F' : α → β → Prop} (h : ∀ a b, F a b → F' a b) : ∀ {l₁ : List α} {l₂ : List β}, Paired F l₁ l₂ → Paired F' l₁ l₂
  | _, _, .nil => .nil
  | _, _, .cons q t => .cons (h _ _ q) (paired_imp h t)
/-! ### dicts of texts -/
theorem putK_new {k : Key} {v : V} : ∀ {kvs : List (Key × V)}, (∀ q ∈ kvs, q.1 ≠ k) → putK kvs k v = kvs ++ [(k, v)] := fun {kvs} h => by
  unfold putK
  rw [if_neg]
  intro z
  obtain ⟨q, hq, e⟩ := List.any_eq_true.mp z
  exact h q hq (of_decide_eq_true e)
theorem merge_app : ∀ (more acc : List (Key × V)), ((acc ++ more).map (·.1)).Nodup → mergeK acc more = acc ++ more
  | [], acc, _ => by simp [mergeK]
  | (k, v) :: r, acc, h => by
    show mergeK (putK acc k v) r = _
    rw [putK_new, merge_app r (acc ++ [(k, v)]) (by simpa using h)]
    · simp
    · intro q hq e
      rw [List.map_append] at h
      exact (List.nodup_append.mp h).2.2 q.1 (List.mem_map_of_mem hq) k (by simp) e
theorem merge_nodup {kvs : List (Key × V)} (h : (kvs.map (·.1)).Nodup) : mergeK [] kvs = kvs := merge_app kvs [] (by simpa using h)
def rLenD : List V → Hp → VK → Prop := fun xs H Q => ∃ a kvs, xs = [V.ref a] ∧ H a = some (.dK kvs) ∧ Q (.int (kvs.length : Nat)) H
theorem c_lenD {X : Cx} : CallR X (.builtin "len") rLenD := call_lenD
section
variable {K : PySem.W.Frag} {G H : Hp} {Q : VK} {a : Addr} {σ : L2.St} {kvs : List (Key × V)}
theorem d_lenD (h : H a = some (.dK kvs)) (q : Q (.int (kvs.length : Nat)) H) : rLenD [.ref a] H Q := ⟨a, kvs, rfl, h, q⟩
theorem d_dctN {ps : List Addr} (h : SqL K H a (ps.map V.ref)) (hp : Paired (fun p kv => SqT K H p [kV kv.1, kv.2]) ps kvs) (e : Ex G H) (q : ∀ p G' H', Ste NoM G H G' H' → Ex G' H' → G' p = some (.dK (mergeK [] kvs)) → Q (.ref p) H') : rDctP K [.ref a] H Q :=
  d_dctP h hp (d_new (R := fun p H => Q (.ref p) H) e q)
theorem d_dctO (h : Rd H a (.dK kvs)) (e : Ex G H) (q : ∀ p H', H' = upd H p (.dK kvs) → Ste NoM G H G H' → G p = none → H p = none → Q (.ref p) H') : rDctD [.ref a] H Q :=
  d_dctD h (d_fresh (R := fun p H => Q (.ref p) H) e q)
theorem d_dnewT (e : Ex G H) (q : ∀ p G' H', Ste NoM G H G' H' → Ex G' H' → G' p = some (.dK []) → Q (.ref p) H') : tDNewK σ H Q := d_new (R := fun p H => Q (.ref p) H) e q
theorem d_dput {td ty tv : TE} {D : Ends} (q : tv σ H fun v H1 => td σ H1 fun x H2 => ty σ H2 fun y H3 => ∃ a H4, x = .ref a ∧ DPut H3 a y v H4 ∧ D.nx σ H4) : sDPut td ty tv D σ H := q
theorem d_dget {td ty : TE} (q : td σ H fun x H1 => ty σ H1 fun y H2 => ∃ a v, x = .ref a ∧ DGet H2 a y (some v) ∧ Q v H2) : tDGet td ty σ H Q := q
theorem d_lits {te : TE} (q : te σ H fun x H1 => LiI.rItemsL x H1 Q) : LiI.tListItems te σ H Q := q
theorem d_items (h : H a = some (.dK kvs)) (e : Ex G H) (q : ∀ (H' : Hp) (p : Addr) (ts : List Addr), Ste NoM G H G H' → H' p = some (.lst (ts.map V.ref)) → Paired (fun (t : Addr) (q : Key × V) => H' t = some (.tup [kV q.1, q.2])) ts kvs → Q (.ref p) H') : LiI.rItemsL (.ref a) H Q :=
  ⟨a, kvs, rfl, h, fun H' p ts hk _ _ _ h1 h2 => q H' p ts (Ste.laid e hk) h1 h2⟩
theorem d_rvL {xs : List V} (h : SqL K H a xs) (e : Ex G H) (q : ∀ p H', H' = upd H p (.lst xs.reverse) → Ste NoM G H G H' → G p = none → H p = none → Q (.ref p) H') : ∃ b ys, V.ref a = .ref b ∧ SqL K H b ys ∧ ∀ p, H p = none → Q (.ref p) (upd H p (.lst ys.reverse)) :=
  ⟨a, xs, rfl, h, d_fresh (R := fun p H => Q (.ref p) H) e q⟩
theorem d_lockE {t : TE} {u : HO} (h : H a = some u) (m : Mut (some u)) (q : ∀ od, t σ (upd H a (.frz od u)) fun v H' => H' a = some (.frz od u) ∧ Q v (upd H' a u)) : tLockE t σ H Q := ⟨a, u, h, m, q⟩
theorem d_iKeys {td : TE} {R : It → Hp → Prop} (q : td σ H fun x H1 => ∃ d o, x = .ref d ∧ ((∃ kvs, H1 d = some (.frz o (.dK kvs)) ∧ R (Itk d o kvs) H1) ∨ ∃ kvs, H1 d = some (.frz o (.dT kvs)) ∧ R (Itkt d o kvs) H1)) : iKeys td σ H R := q
end
theorem paired_map {α β γ : Type} {F : α → β → Prop} {F' : α → γ → Prop} {f : β → γ} (h : ∀ a b, F a b → F' a (f b)) : ∀ {l₁ : List α} {l₂ : List β}, Paired F l₁ l₂ → Paired F' l₁ (l₂.map f)
  | _, _, .nil => .nil
  | _, _, .cons q t => .cons (h _ _ q) (paired_map h t)
theorem cut_from (xs : List V) (n : Nat) : cutV xs (some (n : Int)) none = xs.drop (min n xs.length) := by
  unfold cutV
  rw [HT.sIx_none, HT.sIx_nat]
  exact List.take_of_length_le (by rw [List.length_drop]; exact Nat.le_refl _)
theorem cut_to (xs : List V) (n : Nat) : cutV xs none (some (n : Int)) = xs.take n := by
  unfold cutV
  rw [HT.sIx_none, HT.sIx_nat, List.drop_zero, Nat.sub_zero]
  by_cases h : n ≤ xs.length
  · rw [Nat.min_eq_left h]
  · rw [Nat.min_eq_right (by omega), List.take_length, List.take_of_length_le (by omega)]
theorem eqv_nil (ds : List PyData) : PyData.eqv (.list ds) (.list []) = ds.isEmpty := by
  cases ds <;> simp [PyData.eqv, PyData.eqvAll]
theorem can_strs : ∀ l : List Str, (∀ x ∈ l, PyData.strOk x = true) → PyData.canLayAll0 (l.map .str) = true ∧ PyData.depthAll (l.map .str) = 0
  | [], _ => ⟨rfl, rfl⟩
  | x :: l, h => by
    obtain ⟨a, b⟩ := can_strs l fun y z => h y (List.mem_cons_of_mem _ z)
    exact ⟨by rw [List.map_cons, PyData.canLayAll0, PyData.canLay0, h x List.mem_cons_self, a]; rfl, by rw [List.map_cons, PyData.depthAll, PyData.depth, b]; rfl⟩
theorem shaped_strs {l : List Str} (h : ∀ x ∈ l, PyData.strOk x = true) : SeqAt.shaped (.list (l.map .str)) = true := by
  obtain ⟨a, b⟩ := can_strs l h
  unfold SeqAt.shaped
  rw [PyData.canLay0, PyData.depth, a, b]; rfl
theorem dp_strs {K : PySem.W.Frag} {H : Hp} : ∀ l : List Str, DpAll K H (l.map V.str) (l.map PyData.str)
  | [] => .nil
  | x :: l => .cons (.str x) (dp_strs l)
theorem dq_strs {K : PySem.W.Frag} {H : Hp} : ∀ l : List Str, DqAll K H (l.map V.str) (l.map PyData.str)
  | [] => .nil
  | x :: l => .cons (.str x) (dq_strs l)
theorem d_eqN {K : PySem.W.Frag} {H : Hp} {a b : Addr} {l : List Str} {Q : VK} (ha : SqL K H a (l.map V.str)) (hb : SqL K H b []) (h : ∀ x ∈ l, PyData.strOk x = true) (q : Q (.bl l.isEmpty) H) : rEqD K (.ref a) (.ref b) H Q :=
  ⟨.list (l.map .str), .list [], .lst ha (dp_strs l), .lst hb .nil, shaped_strs h, rfl, by rw [eqv_nil]; cases l <;> exact q⟩
theorem d_neN {K : PySem.W.Frag} {H : Hp} {a b : Addr} {l : List Str} {Q : VK} (ha : SqL K H a (l.map V.str)) (hb : SqL K H b []) (h : ∀ x ∈ l, PyData.strOk x = true) (q : Q (.bl (!l.isEmpty)) H) : rNeD K (.ref a) (.ref b) H Q :=
  ⟨.list (l.map .str), .list [], .lst ha (dp_strs l), .lst hb .nil, shaped_strs h, rfl, by rw [eqv_nil]; cases l <;> exact q⟩
end SP

namespace SP
open PySem PySem.Spec PyProof.Rows L2
/-! ### how long a shown datum is at most -/
mutual
def wt : PyData → Nat
  | .none => 4
  | .bool _ => 5
  | .int _ => 1921
  | .str x => 10 * x.length + 2
  | .list xs => 3 + wtA xs
  | .tuple xs => 3 + wtA xs
  | .dict kvs => 3 + wtK kvs
def wtA : List PyData → Nat
  | [] => 0
  | x :: xs => wt x + 2 + wtA xs
def wtK : List (PyData × PyData) → Nat
  | [] => 0
  | (k, v) :: r => wt k + wt v + 4 + wtK r
end
theorem textFrom_le : ∀ (ts : List Str) (k : Nat) (acc : Str), (textFrom k acc ts).length ≤ acc.length + piled ts
  | [], k, acc => Nat.le_refl _
  | t :: r, k, acc => by
    have h := textFrom_le r (k + 1) (acc ++ (if k > 0 then ", " else "" : String) ++ t)
    have e : (acc ++ (if k > 0 then ", " else "" : String) ++ t).length = acc.length + (if k > 0 then 2 else 0) + t.length := by
      rw [strLen_append, strLen_append]
      split <;> rfl
    rw [e] at h
    show (textFrom (k + 1) _ r).length ≤ _
    rw [piled_cons]
    have d : (if k > 0 then 2 else 0 : Nat) ≤ 2 := by split <;> decide
    omega
theorem join_le (ts : List Str) : (Str.join ", " ts).length ≤ piled ts := by
  by_cases h : ts = []
  · subst h; exact Nat.zero_le _
  · have := join_length_add ts h
    omega
mutual
/-- strings whose signs are all small -/
def okD : PyData → Bool
  | .str x => x.cps.toList.all fun c => decide (c < 16 ^ 8)
  | .list xs => okA xs
  | .tuple xs => okA xs
  | .dict kvs => okK kvs
  | .int _ => true
  | .bool _ => true
  | .none => true
def okA : List PyData → Bool
  | [] => true
  | x :: xs => okD x && okA xs
def okK : List (PyData × PyData) → Bool
  | [] => true
  | (k, v) :: r => okD k && okD v && okK r
end
mutual
theorem shown_le : ∀ d : PyData, d.showable = true → okD d = true → d.shown.length ≤ wt d
  | .none, _, _ => by simp only [PyData.shown, wt]; decide
  | .bool b, _, _ => by simp only [PyData.shown, wt]; cases b <;> decide
  | .int i, h, _ => by
    have h : decide (i.natAbs.log2 < 1920) = true := by simpa only [PyData.showable] using h
    simp only [PyData.shown, wt]
    rw [PySem.ofString_length]
    exact int_text_length_le (by decide) (of_decide_eq_true h)
  | .str x, _, h => by
    simp only [PyData.shown, wt]
    exact StrLaws.reprText_len x fun c hc => of_decide_eq_true (List.all_eq_true.mp (by simpa only [okD] using h) c hc)
  | .list xs, h, o => by
    have := shownA_le xs (by simpa only [PyData.showable] using h) (by simpa only [okD] using o)
    simp only [PyData.shown, wt, listText]
    rw [strLen_append]
    have h2 := textFrom_le (PyData.shownAll xs) 0 "["
    have e1 : ("[" : Str).length = 1 := rfl
    have e2 : ("]" : Str).length = 1 := rfl
    omega
  | .tuple xs, h, o => by
    have := shownA_le xs (by simpa only [PyData.showable] using h) (by simpa only [okD] using o)
    simp only [PyData.shown, wt, tupleText]
    rw [strLen_append, strLen_append]
    have h2 := join_le (PyData.shownAll xs)
    have e1 : ("(" : Str).length = 1 := rfl
    have e2 : (Str.ofString (if (PyData.shownAll xs).length == 1 then ",)" else ")" : String)).length ≤ 2 := by split <;> decide
    omega
  | .dict kvs, h, o => by
    have := shownK_le kvs (by simpa only [PyData.showable] using h) (by simpa only [okD] using o)
    simp only [PyData.shown, wt, dictText]
    rw [strLen_append, strLen_append]
    have h2 := join_le (PyData.shownKv kvs)
    have e1 : ("{" : Str).length = 1 := rfl
    have e2 : ("}" : Str).length = 1 := rfl
    omega
theorem shownA_le : ∀ xs : List PyData, PyData.showableAll xs = true → okA xs = true → piled (PyData.shownAll xs) ≤ wtA xs
  | [], _, _ => by simp only [PyData.shownAll, wtA]; decide
  | x :: xs, h, o => by
    simp only [PyData.showableAll, Bool.and_eq_true] at h
    simp only [okA, Bool.and_eq_true] at o
    have h1 := shown_le x h.1 o.1
    have h2 := shownA_le xs h.2 o.2
    simp only [PyData.shownAll, wtA, piled_cons]
    omega
theorem shownK_le : ∀ xs : List (PyData × PyData), PyData.showableKv xs = true → okK xs = true → piled (PyData.shownKv xs) ≤ wtK xs
  | [], _, _ => by simp only [PyData.shownKv, wtK]; decide
  | (k, v) :: xs, h, o => by
    simp only [PyData.showableKv, Bool.and_eq_true] at h
    simp only [okK, Bool.and_eq_true] at o
    have h1 := shown_le k h.1.1 o.1.1
    have h2 := shown_le v h.1.2 o.1.2
    have h3 := shownK_le xs h.2 o.2
    simp only [PyData.shownKv, wtK, piled_cons]
    rw [strLen_append, strLen_append]
    have e1 : (": " : Str).length = 2 := rfl
    omega
end
theorem shown_of {d : PyData} (h : d.showable = true) (o : okD d = true) (w : wt d ≤ 16000000) (p : d.depth ≤ 60) : Shown d := ⟨h, Nat.le_trans (shown_le d h o) (Nat.le_trans w (by decide)), p⟩
theorem shown_int {i : Int} (h : i.natAbs.log2 < 1920) : Shown (.int i) := shown_of (decide_eq_true h) rfl (by simp only [wt]; decide) (by simp only [PyData.depth]; decide)
/-- a list of equal numbers -/
theorem shown_ints : ∀ {ns : List Int}, (∀ n ∈ ns, n.natAbs.log2 < 1920) → PyData.showableAll (ns.map .int) = true ∧ okA (ns.map .int) = true ∧ wtA (ns.map .int) = ns.length * 1923 ∧ PyData.depthAll (ns.map .int) = 0
  | [], _ => ⟨rfl, rfl, rfl, rfl⟩
  | n :: ns, h => by
    obtain ⟨a, b, c, d⟩ := shown_ints (ns := ns) fun m hm => h m (List.mem_cons_of_mem _ hm)
    have h1 : decide (n.natAbs.log2 < 1920) = true := decide_eq_true (h n List.mem_cons_self)
    refine ⟨?_, ?_, ?_, ?_⟩
    · rw [List.map_cons, PyData.showableAll, PyData.showable, h1, a]; rfl
    · rw [List.map_cons, okA, okD, b]; rfl
    · rw [List.map_cons, wtA, wt, c, List.length_cons, Nat.add_mul]; omega
    · rw [List.map_cons, PyData.depthAll, PyData.depth, d]; rfl
theorem shown_il {ns : List Int} (h : ∀ n ∈ ns, n.natAbs.log2 < 1920) (l : ns.length ≤ 1000) : Shown (.list (ns.map .int)) := by
  obtain ⟨a, b, c, d⟩ := shown_ints h
  exact shown_of (by rw [PyData.showable]; exact a) (by rw [okD]; exact b) (by rw [wt, c]; omega) (by rw [PyData.depth, d]; decide)
end SP

namespace SP
open PySem PySem.Spec PyProof.Rows L2
/-! ### repr of data in which dicts and lists do not meet -/
mutual
def lstD : PyData → Bool
  | .list _ => true
  | .tuple xs => lstA xs
  | .dict kvs => lstK kvs
  | .none => false
  | .bool _ => false
  | .int _ => false
  | .str _ => false
def lstA : List PyData → Bool
  | [] => false
  | x :: xs => lstD x || lstA xs
def lstK : List (PyData × PyData) → Bool
  | [] => false
  | (k, v) :: r => lstD k || lstD v || lstK r
end
theorem lstK_zip : ∀ {ks : List PyData} {ds : List PyData}, ks.length = ds.length → lstK (ks.zip ds) = false → lstA ds = false
  | [], [], _, _ => rfl
  | k :: ks, d :: ds, e, h => by
    simp only [List.zip_cons_cons, lstK, Bool.or_eq_false_iff] at h
    simp only [lstA, Bool.or_eq_false_iff]
    exact ⟨h.1.2, lstK_zip (by simpa using e) h.2⟩
section
variable {X : Cx} {pins : List (Addr × Obj)} {σ : L2.St} {H : Hp} {s : Shared}
mutual
theorem Dq.rds (I : Inv X pins σ H s) : ∀ {v : V} {d : PyData} {u : Value}, Dq X.K H v d → RelV v u → ∃ as, Reads s.heap u d as ∧ (lstD d = false → sysModules ∉ as)
  | _, _, _, .non, r => by cases r; exact ⟨_, .none, fun _ => List.not_mem_nil⟩
  | _, _, _, .bl b, r => by cases r; exact ⟨_, .bool b, fun _ => List.not_mem_nil⟩
  | _, _, _, .int i, r => by obtain ⟨t, rfl⟩ := r; exact ⟨_, .int i t, fun _ => List.not_mem_nil⟩
  | _, _, _, .str x, r => by obtain ⟨t, rfl⟩ := r; exact ⟨_, .str x t, fun _ => List.not_mem_nil⟩
  | _, _, _, .lst (a := a) h q, r => by
    cases r
    obtain ⟨its, rv, ⟨o, n, ho, hc, _, hd⟩, _⟩ := I.list h
    obtain ⟨as, hr, hn⟩ := DqAll.rds I q rv
    exact ⟨_, .list ho hc hd hr, fun m => by simp only [lstD] at m; cases m⟩
  | _, _, _, .tup h q, r => by
    cases r
    obtain ⟨its, rv, ⟨o, ho, hc, n, hd⟩, _⟩ := I.tuple h
    obtain ⟨as, hr, hn⟩ := DqAll.rds I q rv
    exact ⟨_, .tuple ho hc hd hr, fun m => hn (by simpa only [lstD] using m)⟩
  | _, _, _, .dct (ks := ks) (xs := xs) l h q, r => by
    cases r
    have hsm := (dk_rd I.hok h).2.1
    obtain ⟨_, _, vs, kv, o, es, ep, ho, hx, hd, _, hp, _⟩ := h.ok I.hok
    have e1 : (ks.zip xs).map (·.1) = ks := List.map_fst_zip (Nat.le_of_eq l)
    have e2 : (ks.zip xs).map (·.2) = xs := List.map_snd_zip (Nat.le_of_eq l.symm)
    have rv := kv_vals kv
    rw [e2, ← vals_of_pairs hp] at rv
    obtain ⟨bs, hr, hn⟩ := DqAll.rds I q rv
    have lq := q.len
    have f1 : ∀ ds : List PyData, xs.length = ds.length → ((ks.map kD).zip ds).map (·.1) = ks.map kD := fun ds e => List.map_fst_zip (by rw [List.length_map]; omega)
    have f2 : ∀ ds : List PyData, xs.length = ds.length → ((ks.map kD).zip ds).map (·.2) = ds := fun ds e => List.map_snd_zip (by rw [List.length_map]; omega)
    refine ⟨_, Reads.dict (as := []) (bs := bs) ho hx.1 hd (by rw [f1 _ lq]; exact reads_keys hp ((kv_keys kv).trans e1)) (by rw [f2 _ lq]; exact hr), fun w m => ?_⟩
    rcases List.mem_cons.mp m with e | m
    · rw [← e] at hsm; exact absurd hsm (by decide)
    · exact hn (lstK_zip (ks := ks.map kD) (by rw [List.length_map, l, lq]) (by simpa only [lstD] using w)) m
theorem DqAll.rds (I : Inv X pins σ H s) : ∀ {vs : List V} {ds : List PyData} {us : List Value}, DqAll X.K H vs ds → Vals vs us → ∃ as, ReadsAll s.heap us ds as ∧ (lstA ds = false → sysModules ∉ as)
  | _, _, _, .nil, r => by cases r; exact ⟨_, .nil, fun _ => List.not_mem_nil⟩
  | _, _, _, .cons h q, r => by
    cases r with
    | cons r1 r2 =>
      obtain ⟨as, h1, n1⟩ := h.rds I r1
      obtain ⟨bs, h2, n2⟩ := q.rds I r2
      refine ⟨_, .cons h1 h2, fun w m => ?_⟩
      simp only [lstA, Bool.or_eq_false_iff] at w
      exact (List.mem_append.mp m).elim (n1 w.1) (n2 w.2)
end
/-- dicts and lists do not meet -/
def apart (d : PyData) : Prop := d.hasDict = false ∨ lstD d = false
def rReprN (K : PySem.W.Frag) : List V → Hp → VK → Prop := fun xs H Q => ∃ x d, xs = [x] ∧ Dq K H x d ∧ apart d ∧ Shown d ∧ Q (.str d.shown) H
theorem call_reprN {k : Nat} (hr : Room k X.A) (gd : X.A.guards = some []) : CallR X (.builtin "repr") (rReprN X.K) := by
  intro pins s σ H xs us Q I r h
  obtain ⟨x, d, rfl, hd, ap, sh, q⟩ := h
  obtain ⟨u, rfl, rx⟩ := vals1 r
  have hu := hr.units
  have big : ∀ {a : Addr}, Dq X.K H (.ref a) d → wpAny (model X.prog X.w) X.A (call (.builtin "repr") [.ref a]) (EP X pins σ Q) X.xe s := fun {a} hd => by
    obtain ⟨as, rd, ns⟩ := hd.rds I rfl
    refine repr_of_reads' rd sh.sh (fun hh => ?_) gd (by have := sh.dp; omega) (fun _ _ e => e) (fun h' u tk hk => ⟨.str _, H, I.un (Un.kept hk) (I.hok.kept hk), ⟨_, rfl⟩, q⟩) sh.sz
    rcases ap with z | z
    · rw [z] at hh; cases hh
    · exact ns z
  cases hd with
  | non => cases rx; exact PySem.P.repr_of_none ⟨.str _, H, I.tok _, ⟨_, rfl⟩, by rw [PyData.shown_none] at q; exact q⟩
  | bl b => cases rx; exact PySem.P.repr_of_bool ⟨.str _, H, I.tok _, ⟨_, rfl⟩, by rw [PyData.shown_bool] at q; cases b <;> exact q⟩
  | int i =>
    obtain ⟨t, rfl⟩ := rx
    have sz := sh.sh
    simp only [PyData.showable, decide_eq_true_eq] at sz
    exact PySem.P.repr_of_int sz ⟨.str _, H, I.tok _, ⟨_, rfl⟩, by rw [PyData.shown_int] at q; exact q⟩
  | str z =>
    obtain ⟨t, rfl⟩ := rx
    have sz := sh.sz
    rw [PyData.shown_str] at sz
    exact PySem.P.repr_of_str ⟨.str _, H, I.tok _, ⟨_, rfl⟩, by rw [PyData.shown_str] at q; exact q⟩ sz
  | lst h1 h2 => cases rx; exact big (.lst h1 h2)
  | tup h1 h2 => cases rx; exact big (.tup h1 h2)
  | dct h0 h1 h2 => cases rx; exact big (.dct h0 h1 h2)
theorem k_reprN {K : PySem.W.Frag} {k : Nat} (hr : Room k X.A) (gd : X.A.guards = some []) (h : X.K = K := by rfl) : CallR X (.builtin "repr") (rReprN K) := by
  subst h; exact call_reprN hr gd
end
theorem d_reprN {K : PySem.W.Frag} {H : Hp} {x : V} {d : PyData} {Q : VK} (h : Dq K H x d) (a : apart d) (s : Shown d) (q : Q (.str d.shown) H) : rReprN K [x] H Q := ⟨x, d, rfl, h, a, s, q⟩
theorem hasDict_ints : ∀ ns : List Int, PyData.hasDict (.list (ns.map .int)) = false
  | [] => rfl
  | n :: ns => by
    have := hasDict_ints ns
    simp only [PyData.hasDict, List.map_cons, PyData.hasDictAll] at this ⊢
    exact this
end SP

namespace SP
open PySem PySem.Spec PyProof.Rows L2
/-! ### defs that raise -/
section
variable {P : Program} {w : World} {K : PySem.W.Frag} {mg : Str → Option Value} {base : Heap} {f : Addr} {fd : FuncData} {k : Nat} {ps N : List Str} {sp : Sp}
theorem okGX {x qual : Str} {st : Stmt} (F : Fun K x qual st f fd) (S : FnScope N ps (defScope st)) (len : ∀ vs H Q E, sp vs H Q E → vs.length = ps.length)
    (hbody : ∀ (cdv : Value) (A : Around) (outer : List Env) (s : Shared) (H : Hp) (vs : List V) (Q : VK) (E : XK), Room k (A.deeper (envOfC qual (defScope st) s.heap.objs.size f cdv)) →
      (A.deeper (envOfC qual (defScope st) s.heap.objs.size f cdv)).guards = some [] → sp vs H Q E →
      ∃ t, PSs (cxOf (L2.CX P w) P w K mg base N qual (defScope st) f cdv A outer s H E) (defBody st) t ∧ t { nx := fun _ H' => Q .non H', rt := Q } (start N vs) H) : FnG P w K mg base (L2.CX P w) (k + 1) f fd ps sp := by
  obtain ⟨oc, od, kV, doc, pm, an, cdv, ct, osl, rfl, lk, hcd⟩ := F.ex
  exact fnG_mk lk hcd S len fun A outer s H vs Q E room gd hs => hbody cdv A outer s H vs Q E room gd hs
end
section
variable {X : Cx} {CX : CXT} {k : Nat} {f C : Addr} {fd : FuncData} {ps : List Str} {sp : Sp} {E : L2.St → XK} {x : Str} {p pos : Pos} {e : Expr} {es : List Expr} {t : TA}
theorem runGS {pins : List (Addr × Obj)} {σ : L2.St} {H : Hp} {s : Shared} {Q : VK} {us : List Value} {vs : List V} (F : FnG X.prog X.w X.K X.mg X.base CX k f fd ps sp) (hr : Room k X.A) (gd : X.A.guards = some []) (hb : Binds X.K fd ps []) (hx : PassesAt CX X σ (E σ))
    (I : Inv X pins σ H s) (r : Vals vs us) (h : sp vs H Q (E σ)) : wpAny (model X.prog X.w) X.A (call (.ref f) us) (EP X pins σ Q) X.xe s := by
  have hl : us.length = ps.length := by rw [← r.length]; exact F.len _ _ _ _ h
  have b := hb s us I.kIn (by rw [List.append_nil]; exact hl)
  rw [List.append_nil] at b
  refine wpAny_call (codeAny_mono (F.run X.A X.stack s H ⟨us, []⟩ us vs Q (E σ) hr gd I.env0 b r h) fun r s' hq => ?_)
  cases r with
  | error e => exact hx pins H s e s' I hq
  | ok fl =>
    cases fl with
    | ret u => exact I.after hq
    | next => exact False.elim hq
    | brk => exact False.elim hq
    | cont => exact False.elim hq
theorem clX {W : WX} (D : Df X.prog X.w X.K X.mg X.base (L2.CX X.prog X.w) k x ps sp) (hr : Room k X.A) (gd : X.A.guards = some []) (tk : Takes X W) (ha : PA X (e :: es) t) (hg : Gl X x := by rfl) (hdb : (x == ("__debug__" : Str)) = false := by decide)
    (he : starEach (e :: es) X.env = (false, eval e X.env) :: starEach es X.env := by rfl) (hpl : (backTo pos (starEach es X.env)).any (·.1) = false := by rfl) :
    PE X (.Call (.Name x p) (e :: es) [] pos) (tCallS sp (WE W) t) := by
  obtain ⟨f, fd, F, hm, hk, hb⟩ := D.ex
  refine ⟨fun pins s σ H Q I h => ?_⟩
  refine wpAny_Call_Name_kw (ld_glob I hg hm ?_ hdb)
  refine PySem.W.callWith_K (h₀ := X.base) I.ok.mod.kin hk (thn (ha.run pos pins s σ H _ I h) fun us s1 ⟨vs, H1, I1, r, q⟩ => ⟨I1.kIn, ?_⟩) he hpl
  exact runGS F hr gd hb (passAt tk σ) I1 r q
end
/-! ### try, except C as e: nothing is let out -/
def tTry (K : PySem.W.Frag) (c : Value) (i : Nat) (tb : WX → TS) (ts : Addr → Value → Option Addr → TS) : TS := fun D σ H => tb (wAs K c i ts (fun _ _ _ _ => False) D) D σ H
theorem ps_tryA {X : Cx} {x n : Str} {c : Value} {i : Nat} {body suite : List Stmt} {b₀ : Stmt} {np pos pos' : Pos} {tb : WX → TS} {ts : Addr → Value → Option Addr → TS} (hN : X.N.Nodup) (gC : X.mg x = some c)
    (hb : ∀ (W : WX) (pn : List (Addr × Obj)) (xe : Value → Shared → Prop), Takes (X.tr pn xe) W → PSs (X.tr pn xe) body (tb W))
    (hsu : ∀ (a : Addr) (oe : Obj) (cls : Value) (d : Option Addr) (pn : List (Addr × Obj)), Zc cls d oe → (∃ vs, oe.data = .fields vs) → PSs (X.suite a ((a, oe) :: pn)) (b₀ :: suite) (ts a cls d))
    (hs : X.stack = X.env :: X.outer := by rfl) (hf : X.env.frame = some X.env.locals := by rfl) (hi : X.N[i]? = some n := by rfl) (hln : X.env.kindOf n = some .local := by rfl) (hg : Gl X x := by rfl) (hdb : x ≠ "__debug__" := by decide) :
    PS X (.Try body [.ExceptHandler (some (.Name x np)) (some n) (b₀ :: suite) pos'] [] [] pos) (tTry X.K c i tb ts) :=
  ps_try_as hs hf hN hi hln ⟨hg, (by simpa using hdb), Or.inl gC⟩ takes0 (fun W pn xe tk _ => hb W pn xe tk) hsu
section
variable {K : PySem.W.Frag} {c cls : Value} {d : Option Addr} {i : Nat} {tb : WX → TS} {ts : Addr → Value → Option Addr → TS} {D : Ends} {σ : L2.St} {H : Hp} {Wo : WX}
theorem d_try (q : tb (wAs K c i ts (fun _ _ _ _ => False) D) D σ H) : tTry K c i tb ts D σ H := q
theorem d_caught (h : PySem.W.exmOne K cls c = some true) (q : ∀ a, H a = none → ts a cls d { nx := fun σ' H' => D.nx (σ'.set i none) H', rt := D.rt, bk := fun σ' H' => D.bk (σ'.set i none) H', ct := fun σ' H' => D.ct (σ'.set i none) H' } (σ.set i (some (.ref a))) H) :
    wAs K c i ts Wo D cls d σ H := ⟨true, h, fun _ => q, fun z => nomatch z⟩
theorem d_callS {sp : Sp} {E : L2.St → XK} {t : TA} {Q : VK} (q : t σ H fun vs H1 => sp vs H1 Q (E σ)) : tCallS sp E t σ H Q := q
end
/-! ### isinstance of the caught error -/
def rIsX (K : PySem.W.Frag) (cls : Value) (d : Option Addr) (a : Addr) : List V → Hp → VK → Prop := fun xs H Q => ∃ D, cls = .ref D ∧ d = none ∧ ExcC K D ∧ rIsE K D a xs H Q
theorem c_isX {X : Cx} {a : Addr} {oe : Obj} {cls : Value} {d : Option Addr} {pn : List (Addr × Obj)} (K : PySem.W.Frag) (hz : Zc cls d oe) (hf : ∃ vs, oe.data = .fields vs) (hK : X.K = K := by rfl) : CallR (X.suite a ((a, oe) :: pn)) (.builtin "isinstance") (rIsX K cls d a) := by
  subst hK
  intro pins s σ H xs us Q I r h
  obtain ⟨D, rfl, rfl, C, h⟩ := h
  exact call_isE C hz hf pins s σ H xs us Q I r h
def rIsXT (K : PySem.W.Frag) (cls : Value) (d : Option Addr) (a : Addr) : List V → Hp → VK → Prop := fun xs H Q => ∃ D tp cs us b, cls = .ref D ∧ d = none ∧ ExcC K D ∧ xs = [.ref a, .ref tp] ∧ H tp = some (.tup cs) ∧ Paired (fun (c : V) (u : Value) => ∀ v, RelV c v → v = u) cs us ∧ PySem.W.kitAny K (.ref D) us = some b ∧ Q (.bl b) H
theorem vals_all : ∀ {cs : List V} {us its : List Value}, Paired (fun (c : V) (u : Value) => ∀ v, RelV c v → v = u) cs us → Vals cs its → its = us
  | _, _, _, .nil, .nil => rfl
  | _, _, _, .cons h t, .cons r s => by rw [h _ r, vals_all t s]
theorem c_isXT {X : Cx} {a : Addr} {oe : Obj} {cls : Value} {d : Option Addr} {pn : List (Addr × Obj)} (K : PySem.W.Frag) (hz : Zc cls d oe) (hf : ∃ vs, oe.data = .fields vs) (hK : X.K = K := by rfl) : CallR (X.suite a ((a, oe) :: pn)) (.builtin "isinstance") (rIsXT K cls d a) := by
  subst hK
  intro pins s σ H xs us Q I r h
  obtain ⟨D, tp, cs, ws, b, rfl, rfl, C, rfl, hT, pc, e, q⟩ := h
  cases r with
  | cons rx rr =>
    cases rr with
    | cons rt rr =>
      cases rr
      cases rx
      cases rt
      obtain ⟨hget, _⟩ := I.pin (a, oe) (List.mem_append.mpr (.inl List.mem_cons_self))
      obtain ⟨vs, hv⟩ := hf
      have J : PySem.W.InstAt s.heap a oe D none := by
        obtain ⟨oc, od, oda, osl⟩ := oe
        obtain ⟨h1, h2⟩ := hz
        dsimp only at h1 h2 hv
        subst h1 h2 hv
        exact ⟨hget, rfl, rfl, trivial⟩
      obtain ⟨_, its, rv, o, h1, h2, n, h3⟩ := (show ObjOk X.prog X.w H s.heap tp (.tup cs) from I.hok tp _ hT)
      have e3 := vals_all pc rv
      subst e3
      obtain ⟨oc, od, dt, sl⟩ := o
      simp only at h2 h3
      subst h2 h3
      exact PySem.W.kia_tup (PySem.W.handS_kitx_exc C.hg C.hk C.hs C.hd C.ha C.hn C.ht C.hm) I.kIn J h1 e (fun z => nomatch z) fun tk => ⟨.bl b, H, I.kept (t' := tk) fun _ _ z => z, rfl, q⟩
theorem d_isX {K : PySem.W.Frag} {D a C : Addr} {b : Bool} {H : Hp} {Q : VK} (x : ExcC K D) (h : PySem.W.kitOne K (.ref D) (.ref C) = some b) (q : Q (.bl b) H) : rIsX K (.ref D) none a [.ref a, .ref C] H Q := ⟨D, rfl, rfl, x, .ref C, .ref C, b, rfl, fun _ z => z, h, q⟩
theorem d_isXty {K : PySem.W.Frag} {D a : Addr} {n : String} {b : Bool} {H : Hp} {Q : VK} (x : ExcC K D) (h : PySem.W.kitOne K (.ref D) (.type n) = some b) (q : Q (.bl b) H) : rIsX K (.ref D) none a [.ref a, .ty n] H Q := ⟨D, rfl, rfl, x, .ty n, .type n, b, rfl, fun _ z => z, h, q⟩
theorem d_isXT2 {K : PySem.W.Frag} {D a tp C1 C2 : Addr} {b : Bool} {H : Hp} {Q : VK} (x : ExcC K D) (ht : H tp = some (.tup [.ref C1, .ref C2])) (h : PySem.W.kitAny K (.ref D) [.ref C1, .ref C2] = some b) (q : Q (.bl b) H) : rIsXT K (.ref D) none a [.ref a, .ref tp] H Q :=
  ⟨D, tp, _, _, b, rfl, rfl, x, rfl, ht, .cons (fun _ z => z) (.cons (fun _ z => z) .nil), h, q⟩
/-! ### raise C('text') -/
def tRaiseC (C : Addr) (W : WX) : TS := fun _ σ H => W (.ref C) none σ H
/-- an own error class over ValueError, without an __init__ of its own -/
structure OwnX (K : PySem.W.Frag) (mg : Str → Option Value) (x : Str) (C : Addr) : Prop where
  xP : PySem.W.excIn K C [.type "ValueError", .type "Exception", .type "BaseException", .type "object"] "ValueError.__new__" = true
  gP : mg x = some (.ref C)
  kP : PySem.W.keepIn K (.ref C) = true
  bP : PySem.W.subIn K (.ref C) (.type "BaseException") = some true
  tP : PySem.W.typeIn K (.ref C) = some (.type "type")
theorem ps_raiseC {X : Cx} {W : WX} {C : Addr} {x m : Str} {j : Nat} {p p2 pos pos2 : Pos} (O : OwnX X.K X.mg x C) (tk : Takes X W)
    (hc : X.calm = true := by rfl) (hg : Gl X x := by rfl) (hdb : (x == ("__debug__" : Str)) = false := by decide) : PS X (.Raise (some (.Call (.Name x p) [.Constant (.str m) j p2] [] pos)) none pos2) (tRaiseC C W) :=
  ps_raise hc tk (pmk_own PySem.F.excBase_ValueError O.xP O.gP O.kP (raises_own O.bP O.tP) hg hdb)
theorem d_raiseC {C : Addr} {W : WX} {D : Ends} {σ : L2.St} {H : Hp} (q : W (.ref C) none σ H) : tRaiseC C W D σ H := q
/-! ### what the classes say -/
section
variable {K : PySem.W.Frag} {D C : Addr} {b : Bool}
theorem kit_own (hd : PySem.W.hasDictIn K C = true) (ht : PySem.W.typeIn K (.ref C) = some (.type "type")) (hs : PySem.W.subIn K (.ref D) (.ref C) = some b) (hself : PySem.W.subIn K (.ref D) (.ref D) = some true) : PySem.W.kitOne K (.ref D) (.ref C) = some b := by
  unfold PySem.W.kitOne
  split
  · rename_i h
    have e : D = C := Value.ref.inj (beq_iff_eq.mp h)
    subst e
    rw [hself] at hs
    exact hs
  · obtain ⟨cd, hc, _⟩ := PySem.W.any_some hd
    have e2 : ((PySem.W.clsIn K C).isSome && PySem.W.typeIn K (.ref C) == some (.type "type")) = true := by rw [hc, ht] <;> rfl
    show (if ((PySem.W.clsIn K C).isSome && PySem.W.typeIn K (.ref C) == some (.type "type")) = true then PySem.W.subIn K (.ref D) (.ref C) else none) = some b
    rw [if_pos e2]
    exact hs
theorem kit_base {n : String} (hm : PySem.W.kitMeta n = true) (hs : PySem.W.subIn K (.ref D) (.type n) = some b) : PySem.W.kitOne K (.ref D) (.type n) = some b := by
  unfold PySem.W.kitOne
  rw [if_neg (show ¬ (Value.ref D == Value.type n) = true from fun z => by have := beq_iff_eq.mp z; cases this)]
  show (if PySem.W.kitMeta n = true then PySem.W.subIn K (.ref D) (.type n) else none) = some b
  rw [if_pos hm]
  exact hs
theorem kit_no2 {C2 : Addr} (h1 : PySem.W.kitOne K (.ref D) (.ref C) = some false) (h2 : PySem.W.kitOne K (.ref D) (.ref C2) = some false) : PySem.W.kitAny K (.ref D) [.ref C, .ref C2] = some false :=
  kitAny_cons h1 (fun _ => kitAny_cons h2 (fun _ => kitAny_nil) (fun z => nomatch z)) (fun z => nomatch z)
end
end SP

namespace SP
open PySem PySem.Spec PyProof.Rows L2
end SP
namespace K11
open PySem PySem.Spec PyProof.Rows L2 SP
local macro_rules | `(tactic| walk_at "num") => `(tactic| first
  | (show (0 : Int) < _; omega)
  | (unfold CPow; refine ⟨?_, ?_, ?_⟩ <;> omega)
  | (unfold CDivW; exact ⟨by omega, by decide⟩)
  | (unfold CMulW; exact wide_mul (a := 40) (b := 40) (by omega) (by omega) (by decide) (by decide) (by decide)))
local macro_rules | `(tactic| walk_at "fit") => `(tactic| first
  | assumption
  | trivial
  | exact And.left (by assumption)
  | omega)
local macro_rules | `(tactic| walk_at "st") => `(tactic| first
  | assumption
  | exact Ste.refl (by assumption)
  | ((with_reducible refine Ste.trans ?_ (by assumption)); walk_at "st")
  | ((with_reducible refine Ste.trans ?_ (Ste.any (by assumption))); walk_at "st"))
local macro_rules | `(tactic| walk_at "sr") => `(tactic| first
  | assumption
  | with_reducible exact At.o (by assumption)
  | with_reducible exact Kp.s (by assumption)
  | ((with_reducible refine (Own.src _).step _ _ _ _ (by assumption) ?_); walk_at "sr"))
local macro_rules | `(tactic| walk_at "at") => `(tactic| first
  | assumption
  | exact At.refl (by walk_at "tr") (by walk_at "sr")
  | ((with_reducible refine At.trans ?_ (by assumption)); walk_at "at")
  | ((with_reducible refine At.trans ?_ (Kp.a (by assumption))); walk_at "at")
  | ((with_reducible refine At.step (Own.src _) ?_ (by assumption)); walk_at "at"))
local macro_rules | `(tactic| walk_at "tr") => `(tactic| first
  | assumption
  | with_reducible exact Dq.str _
  | with_reducible exact Dq.int _
  | with_reducible exact Dq.bl _
  | with_reducible exact Dq.non
  | exact Ste.h (by assumption)
  | exact At.e (by assumption)
  | exact Kp.e (by assumption)
  | with_reducible exact sl_of (by assumption)
  | with_reducible exact st_of (by assumption)
  | ((with_reducible refine ex_at (by assumption) ?_); walk_at "tr")
  | ((with_reducible refine ex_at (Kp.e (by assumption)) ?_); walk_at "tr")
  | ((with_reducible refine ex_at (Ste.g (by assumption)) ?_); walk_at "tr")
  | ((with_reducible refine ex_at (Ste.g (At.s (by assumption))) ?_); walk_at "tr")
  | ((with_reducible refine ex_at (At.e (by assumption)) ?_); walk_at "tr")
  | ((with_reducible refine ex_sl (by assumption) ?_); walk_at "tr")
  | ((with_reducible refine ex_sl (Kp.e (by assumption)) ?_); walk_at "tr")
  | ((with_reducible refine ex_st (by assumption) ?_); walk_at "tr")
  | ((with_reducible refine ex_st (Kp.e (by assumption)) ?_); walk_at "tr")
  | ((with_reducible refine ex_dq (by assumption) ?_); walk_at "tr")
  | ((with_reducible refine ex_dq (Kp.e (by assumption)) ?_); walk_at "tr")
  | ((with_reducible refine ex_dqA (by assumption) ?_); walk_at "tr")
  | ((with_reducible refine ex_dqA (Kp.e (by assumption)) ?_); walk_at "tr")
  | ((with_reducible refine ex_rd (by assumption) ?_); walk_at "tr")
  | ((with_reducible refine ex_rd (Kp.e (by assumption)) ?_); walk_at "tr")
  | ((with_reducible refine ex_sl (Ste.g (by assumption)) ?_); walk_at "tr")
  | ((with_reducible refine ex_sl (Ste.g (At.s (by assumption))) ?_); walk_at "tr")
  | ((with_reducible refine ex_sl (At.e (by assumption)) ?_); walk_at "tr")
  | ((with_reducible refine ex_st (Ste.g (by assumption)) ?_); walk_at "tr")
  | ((with_reducible refine ex_st (Ste.g (At.s (by assumption))) ?_); walk_at "tr")
  | ((with_reducible refine ex_st (At.e (by assumption)) ?_); walk_at "tr")
  | ((with_reducible refine ex_dq (Ste.g (by assumption)) ?_); walk_at "tr")
  | ((with_reducible refine ex_dq (Ste.g (At.s (by assumption))) ?_); walk_at "tr")
  | ((with_reducible refine ex_dq (At.e (by assumption)) ?_); walk_at "tr")
  | ((with_reducible refine ex_dqA (Ste.g (by assumption)) ?_); walk_at "tr")
  | ((with_reducible refine ex_dqA (Ste.g (At.s (by assumption))) ?_); walk_at "tr")
  | ((with_reducible refine ex_dqA (At.e (by assumption)) ?_); walk_at "tr")
  | ((with_reducible refine ex_rd (Ste.g (by assumption)) ?_); walk_at "tr")
  | ((with_reducible refine ex_rd (Ste.g (At.s (by assumption))) ?_); walk_at "tr")
  | ((with_reducible refine ex_rd (At.e (by assumption)) ?_); walk_at "tr")
  | exact Ex.refl _)
local macro_rules | `(tactic| walk_at "rd1") => `(tactic| first
  | ((with_reducible refine d_var (v := ?v) ?h ?q); (case h => rfl))
  | with_reducible refine d_c ?_
  | with_reducible refine d_cons ?_
  | with_reducible refine d_nil ?_
  | with_reducible refine d_op ?_
  | with_reducible refine d_tI ?_
  | ((with_reducible refine d_tIC ?c ?_); (case c => walk_at "num"))
  | with_reducible refine d_cb ?_
  | with_reducible refine d_call ?_
  | ((with_reducible refine d_spT (d := ?d) (G := ?G) ?e ?h ?l (fun _ _ _ _ => ?_)); (case e => walk_at "tr"); (case h => walk_at "tr"); (case l => walk_at "fit"))
  | ((with_reducible refine d_eq ?h ?_); (case h => rfl))
  | ((with_reducible refine d_ne ?h ?_); (case h => rfl))
  | with_reducible refine d_bl ?_
  | ((with_reducible refine d_len1 ?h ?_); (case h => walk_at "fit"))
  | ((with_reducible refine d_len2 (xs := ?xs) ?h ?_); (case h => walk_at "tr"))
  | ((with_reducible refine d_len3 (xs := ?xs) ?h ?_); (case h => walk_at "tr"))
  | with_reducible refine d_inSg ?_
  | with_reducible refine d_niSg ?_
  | with_reducible refine d_abs ?_
  | with_reducible refine d_max ?_
  | with_reducible refine d_min ?_
  | with_reducible refine d_int1 ?_
  | with_reducible refine d_int2 ?_
  | ((with_reducible refine d_ixT (xs := ?xs) (v := ?v) ?h ?c ?_); (case h => walk_at "tr"); (case c => rfl))
  | ((with_reducible refine d_ixL (xs := ?xs) (v := ?v) ?h ?c ?_); (case h => walk_at "tr"); (case c => rfl))
  | with_reducible refine d_sl ?_
  | ((with_reducible refine d_mkT (G := ?G) ?h ?e (fun _ _ _ _ _ _ => ?_)); (case h => exact Nat.le_of_ble_eq_true rfl); (case e => walk_at "tr"))
  | with_reducible refine d_m1 ?_
  | with_reducible refine d_po0 ?_
  | with_reducible refine d_po1 ?_
  | with_reducible refine d_ei ?_
  | with_reducible refine d_es ?_
  | with_reducible refine d_callN ?_
  | with_reducible refine d_lc ?_
  | with_reducible refine d_yes ?_
  | with_reducible refine d_iList ?_
  | with_reducible refine d_iStr ?_
  | ((with_reducible refine d_wipe ?h ?_); (case h => rfl))
  | ((with_reducible refine d_il (xs := ?xs) ?h ?_); (case h => walk_at "tr"))
  | with_reducible refine d_iRng1 ?_
  | with_reducible refine d_forS ?_
  | with_reducible refine d_dput ?_
  | with_reducible refine d_dget ?_
  | with_reducible refine d_lits ?_
  | with_reducible refine d_iKeys ?_
  | with_reducible refine d_revL ?_
  | with_reducible refine d_bm ?_
  | with_reducible refine d_try ?_
  | with_reducible refine d_callS ?_
  | with_reducible refine d_raiseC ?_
  | with_reducible refine d_par ?_
  | with_reducible refine d_par3 ?_
  | with_reducible refine d_e2 ?_
  | with_reducible refine d_e3 ?_
  | ((with_reducible refine d_kN ?h1 ?h2 ?_); (case h1 => rfl); (case h2 => rfl))
  | ((with_reducible refine d_isI (d := ?d) ?h ?_); (case h => walk_at "tr"))
  | ((with_reducible refine d_isB (d := ?d) ?h ?_); (case h => walk_at "tr"))
  | ((with_reducible refine d_isS (d := ?d) ?h ?_); (case h => walk_at "tr"))
  | ((with_reducible refine d_isT (d := ?d) ?h ?_); (case h => walk_at "tr"))
  | ((with_reducible refine d_isL (d := ?d) ?h ?_); (case h => walk_at "tr"))
  | ((with_reducible refine d_isD (d := ?d) ?h ?_); (case h => walk_at "tr"))
  | with_reducible refine d_test ?_
  | with_reducible refine d_tB ?_
  | with_reducible refine d_T rfl ?_
  | with_reducible refine d_F rfl ?_
  | with_reducible refine d_and ?_
  | with_reducible refine d_or ?_
  | with_reducible refine d_not ?_
  | with_reducible refine d_andV ?_
  | with_reducible refine d_orV ?_
  | with_reducible refine d_notV ?_
  | with_reducible refine d_if ?_
  | with_reducible refine d_seq ?_
  | with_reducible refine d_asg ?_
  | with_reducible refine d_name ?_
  | with_reducible refine d_ret ?_
  | with_reducible refine d_ifS ?_
  | with_reducible refine d_drop ?_
  | with_reducible refine d_next ?_
  | with_reducible refine d_neg ?_
  | with_reducible refine d_un ?_
  | with_reducible refine d_chain ?_
  | with_reducible refine d_tup ?_
  | with_reducible refine d_lst ?_
  | with_reducible refine d_gcons ?_
  | with_reducible refine d_gnil ?_
  | with_reducible refine d_gsub ?_
  | ((with_reducible refine d_gtup (xs := ?xs) ?h ?l ?_); (case h => walk_at "tr"); (case l => rfl)))
local macro_rules | `(tactic| walk_at "rd") => `(tactic| repeat walk_at "rd1")

def topS (i : Nat) : Stmt := PySem.Challenge.pw_samepoint_k11_expressions_judged.main.body.getD i (.Pass ⟨0, 0, 0, 0⟩)
abbrev s_is_integer : Stmt := topS 10
abbrev N_is_integer : List Str := ["value"]
theorem sc_is_integer : FnScope N_is_integer ["value"] (defScope s_is_integer) := ⟨rfl, rfl, rfl, by decide +kernel, rfl, by decide +kernel, by decide +kernel⟩
abbrev s_is_value : Stmt := topS 11
abbrev N_is_value : List Str := ["value"]
theorem sc_is_value : FnScope N_is_value ["value"] (defScope s_is_value) := ⟨rfl, rfl, rfl, by decide +kernel, rfl, by decide +kernel, by decide +kernel⟩
abbrev s_is_name : Stmt := topS 12
abbrev N_is_name : List Str := ["value", "letter"]
theorem sc_is_name : FnScope N_is_name ["value"] (defScope s_is_name) := ⟨rfl, rfl, rfl, by decide +kernel, rfl, by decide +kernel, by decide +kernel⟩
abbrev s_limited : Stmt := topS 13
abbrev N_limited : List Str := ["number"]
theorem sc_limited : FnScope N_limited ["number"] (defScope s_limited) := ⟨rfl, rfl, rfl, by decide +kernel, rfl, by decide +kernel, by decide +kernel⟩
abbrev s_added : Stmt := topS 14
abbrev N_added : List Str := ["left", "right"]
theorem sc_added : FnScope N_added ["left", "right"] (defScope s_added) := ⟨rfl, rfl, rfl, by decide +kernel, rfl, by decide +kernel, by decide +kernel⟩
abbrev s_subtracted : Stmt := topS 15
abbrev N_subtracted : List Str := ["left", "right"]
theorem sc_subtracted : FnScope N_subtracted ["left", "right"] (defScope s_subtracted) := ⟨rfl, rfl, rfl, by decide +kernel, rfl, by decide +kernel, by decide +kernel⟩
abbrev s_multiplied : Stmt := topS 16
abbrev N_multiplied : List Str := ["left", "right"]
theorem sc_multiplied : FnScope N_multiplied ["left", "right"] (defScope s_multiplied) := ⟨rfl, rfl, rfl, by decide +kernel, rfl, by decide +kernel, by decide +kernel⟩
abbrev s_divided : Stmt := topS 17
abbrev N_divided : List Str := ["left", "right"]
theorem sc_divided : FnScope N_divided ["left", "right"] (defScope s_divided) := ⟨rfl, rfl, rfl, by decide +kernel, rfl, by decide +kernel, by decide +kernel⟩
abbrev s_remaining : Stmt := topS 18
abbrev N_remaining : List Str := ["left", "right"]
theorem sc_remaining : FnScope N_remaining ["left", "right"] (defScope s_remaining) := ⟨rfl, rfl, rfl, by decide +kernel, rfl, by decide +kernel, by decide +kernel⟩
abbrev s_is_less : Stmt := topS 19
abbrev N_is_less : List Str := ["left", "right"]
theorem sc_is_less : FnScope N_is_less ["left", "right"] (defScope s_is_less) := ⟨rfl, rfl, rfl, by decide +kernel, rfl, by decide +kernel, by decide +kernel⟩
abbrev s_is_same : Stmt := topS 20
abbrev N_is_same : List Str := ["left", "right"]
theorem sc_is_same : FnScope N_is_same ["left", "right"] (defScope s_is_same) := ⟨rfl, rfl, rfl, by decide +kernel, rfl, by decide +kernel, by decide +kernel⟩
abbrev s_is_nested : Stmt := topS 23
abbrev N_is_nested : List Str := ["value", "levels"]
theorem sc_is_nested : FnScope N_is_nested ["value", "levels"] (defScope s_is_nested) := ⟨rfl, rfl, rfl, by decide +kernel, rfl, by decide +kernel, by decide +kernel⟩
abbrev s_is_expression : Stmt := topS 24
abbrev N_is_expression : List Str := ["value"]
theorem sc_is_expression : FnScope N_is_expression ["value"] (defScope s_is_expression) := ⟨rfl, rfl, rfl, by decide +kernel, rfl, by decide +kernel, by decide +kernel⟩
abbrev s_computed : Stmt := topS 25
abbrev N_computed : List Str := ["expression", "variables", "result", "operator", "left", "right"]
theorem sc_computed : FnScope N_computed ["expression", "variables"] (defScope s_computed) := ⟨rfl, rfl, rfl, by decide +kernel, rfl, by decide +kernel, by decide +kernel⟩
/-! ### plain functions -/
def LIM : Int := 10 ^ 60
def LETS : Str := "abcdefghijklmnopqrstuvwxyz"
def OPS : List Str := ["add", "sub", "mul", "div", "mod", "less", "same"]
def isInt : PyData → Bool
  | .int _ => true
  | _ => false
def isVal : PyData → Bool
  | .int i => decide (-LIM ≤ i) && decide (i ≤ LIM)
  | _ => false
def letters (x : Str) : Bool := x.cps.toList.all fun c => decide (c ∈ LETS.cps.toList)
def isNm : PyData → Bool
  | .str x => decide (1 ≤ x.length) && decide (x.length ≤ 8) && letters x
  | _ => false
def lim (n : Int) : Int := max (-LIM) (min LIM n)
def InL (a : Int) : Prop := -LIM ≤ a ∧ a ≤ LIM
theorem bits {a : Int} (h : InL a) : a.natAbs < 2 ^ 200 := by
  have h1 := h.1
  have h2 := h.2
  unfold LIM at h1 h2
  omega
theorem cmul {a b : Int} (ha : InL a) (hb : b.natAbs < 2 ^ 200) : CMulW a b := wide_mul (bits ha) hb (by decide) (by decide) (by decide)
theorem clog {a : Int} (ha : a.natAbs < 2 ^ 200) : a.natAbs.log2 < 9000 := Nat.lt_of_lt_of_le (PySem.Flt.log2_lt_of (by decide) ha) (by decide)
def opF (o : Str) (a b : Int) : Int :=
  if o = "add" then a + b else if o = "sub" then a - b else if o = "mul" then a * b else if o = "div" then (if b = 0 then 0 else a.fdiv b)
  else if o = "mod" then (if b = 0 then 0 else a - b * a.fdiv b) else if o = "less" then (if a < b then 1 else 0) else (if a = b then 1 else 0)
/-- what a tuple of three comes to -/
def op3 (o : PyData) (b : Bool) : Bool := match o with
  | .str z => decide (z ∈ OPS) && b
  | _ => false
def tri (f : PyData → Bool) : List PyData → Bool
  | [o, l, r] => op3 o (f l && f r)
  | _ => false
def nested : Nat → PyData → Bool
  | 0, _ => false
  | n + 1, d => isVal d || isNm d || (match d with
    | .tuple ds => tri (nested n) ds
    | _ => false)
theorem nested_tup (n : Nat) (ds : List PyData) : nested (n + 1) (.tuple ds) = (isVal (.tuple ds) || isNm (.tuple ds) || tri (nested n) ds) := rfl
theorem tri_no {f : PyData → Bool} : ∀ {ds : List PyData}, ds.length ≠ 3 → tri f ds = false
  | [], _ => rfl
  | [_], _ => rfl
  | [_, _], _ => rfl
  | [_, _, _], h => (h rfl).elim
  | _ :: _ :: _ :: _ :: _, _ => rfl
/-! ### promises -/
def spI1 (g : Int → Int) : Sp := fun vs H Q _ => ∃ n, vs = [.int n] ∧ Q (.int (g n)) H
def spI2 (g : Int → Int → Int) : Sp := fun vs H Q _ => ∃ a b, vs = [.int a, .int b] ∧ InL a ∧ InL b ∧ Q (.int (g a b)) H
def spNest (K : PySem.W.Frag) (n : Nat) : Sp := fun vs H Q _ => ∃ v d G, vs = [v, .int (n : Int)] ∧ 1 ≤ n ∧ Ex G H ∧ Dq K G v d ∧ fitD d ∧ PQ G H (.bl (nested n d)) Q
theorem d_nest {K : PySem.W.Frag} {n : Nat} {i : Int} {v : V} {d : PyData} {G H : Hp} {Q : VK} {E : XK} (hi : i = (n : Int)) (h1 : 1 ≤ n) (e : Ex G H) (h : Dq K G v d) (l : fitD d) (q : ∀ G' H', Ste NoM G H G' H' → Ex G' H' → Q (.bl (nested n d)) H') : spNest K n [v, .int i] H Q E :=
  ⟨v, d, G, by rw [hi], h1, e, h, l, q⟩
/-! ### values of expressions -/
def envK (e : List (Str × Int)) : List (Key × V) := e.map fun p => (.inr p.1, .int p.2)
def look (e : List (Str × Int)) (x : Str) : Int := (e.lookup x).getD 0
theorem val_env (x : Str) : ∀ e : List (Str × Int), valV (envK e) (.inr x) = (e.lookup x).map V.int
  | [] => rfl
  | (y, i) :: e => by
    by_cases h : x = y
    · subst h
      rw [show envK ((x, i) :: e) = ((Sum.inr x : Key), V.int i) :: envK e from rfl, valV_pos rfl]
      simp [List.lookup]
    · rw [show envK ((y, i) :: e) = ((Sum.inr y : Key), V.int i) :: envK e from rfl, valV_neg (fun z => h (Sum.inr.inj z).symm), val_env x e]
      have : (x == y) = false := by simpa using h
      simp [List.lookup, this]
def EnvOk (e : List (Str × Int)) : Prop := ∀ p ∈ e, InL p.2
theorem in0 : InL 0 := ⟨by unfold LIM; omega, by unfold LIM; omega⟩
theorem look_in {e : List (Str × Int)} (h : EnvOk e) (x : Str) : InL (look e x) := by
  unfold look
  cases q : e.lookup x with
  | none => exact in0
  | some i => exact h (x, i) (PySem.mem_of_lookup q)
theorem lim_in (n : Int) : InL (lim n) := by
  unfold InL lim LIM
  omega
def valD (e : List (Str × Int)) : Nat → PyData → Int
  | 0, _ => 0
  | _ + 1, .int i => i
  | _ + 1, .str x => look e x
  | n + 1, .tuple [.str o, l, r] => lim (opF o (valD e n l) (valD e n r))
  | _ + 1, _ => 0
theorem nested_in {n : Nat} {i : Int} (h : nested n (.int i) = true) : InL i := by
  cases n with
  | zero => cases h
  | succ n =>
    simp only [nested, isVal, isNm, Bool.or_false, Bool.and_eq_true, decide_eq_true_eq] at h
    exact h
theorem nested_op {n : Nat} {ds : List PyData} (h : nested (n + 1) (.tuple ds) = true) : ∃ o l r, ds = [.str o, l, r] ∧ o ∈ OPS ∧ nested n l = true ∧ nested n r = true := by
  rw [nested_tup] at h
  simp only [isVal, isNm, Bool.or_self, Bool.false_or] at h
  match ds, h with
  | [o, l, r], h =>
    have h' : op3 o (nested n l && nested n r) = true := h
    cases o with
    | str z =>
      have h2 : (decide (z ∈ OPS) && (nested n l && nested n r)) = true := h'
      simp only [Bool.and_eq_true, decide_eq_true_eq] at h2
      exact ⟨z, l, r, rfl, h2.1, h2.2.1, h2.2.2⟩
    | _ => cases h'
  | [], h => cases h
  | [_], h => cases h
  | [_, _], h => cases h
  | _ :: _ :: _ :: _ :: _, h => cases h
theorem valD_in {e : List (Str × Int)} (he : EnvOk e) : ∀ (n : Nat) (d : PyData), nested n d = true → InL (valD e n d)
  | 0, _, h => by cases h
  | n + 1, .int i, h => nested_in h
  | n + 1, .str x, h => look_in he x
  | n + 1, .tuple ds, h => by
    obtain ⟨o, l, r, rfl, _, _, _⟩ := nested_op h
    exact lim_in _
  | n + 1, .none, h => by simp [nested, isVal, isNm] at h
  | n + 1, .bool _, h => by simp [nested, isVal, isNm] at h
  | n + 1, .list _, h => by simp [nested, isVal, isNm] at h
  | n + 1, .dict _, h => by simp [nested, isVal, isNm] at h
def spComp (K : PySem.W.Frag) (n : Nat) : Sp := fun vs H Q _ => ∃ v d G dk e, vs = [v, .ref dk] ∧ Ex G H ∧ Dq K G v d ∧ nested n d = true ∧ G dk = some (.dK (envK e)) ∧ EnvOk e ∧ PQ G H (.int (valD e n d)) Q
def spEval (K : PySem.W.Frag) : Sp := fun vs H Q _ => ∃ v d G dk e, vs = [v, .ref dk] ∧ Ex G H ∧ Dq K G v d ∧ fitD d ∧ nested 6 d = true ∧ G dk = some (.dK (envK e)) ∧ EnvOk e ∧ PQ G H (.int (valD e 6 d)) Q
theorem d_comp {K : PySem.W.Frag} {n : Nat} {v : V} {d : PyData} {dk : Addr} {en : List (Str × Int)} {G H : Hp} {Q : VK} {E : XK} (e : Ex G H) (h : Dq K G v d) (hn : nested n d = true) (hd : G dk = some (.dK (envK en))) (he : EnvOk en)
    (q : ∀ G' H', Ste NoM G H G' H' → Ex G' H' → Q (.int (valD en n d)) H') : spComp K n [v, .ref dk] H Q E := ⟨v, d, G, dk, en, rfl, e, h, hn, hd, he, q⟩
theorem d_spI1 {g : Int → Int} {n : Int} {H : Hp} {Q : VK} {E : XK} (q : Q (.int (g n)) H) : spI1 g [.int n] H Q E := ⟨n, rfl, q⟩
theorem d_spI2 {g : Int → Int → Int} {a b : Int} {H : Hp} {Q : VK} {E : XK} (ha : InL a) (hb : InL b) (q : Q (.int (g a b)) H) : spI2 g [.int a, .int b] H Q E := ⟨a, b, rfl, ha, hb, q⟩
structure Txt (K : PySem.W.Frag) (mg : Str → Option Value) (aO aR : Addr) : Prop where
  z_isinstance : mg "isinstance" = none
  z_int : mg "int" = none
  z_bool : mg "bool" = none
  z_str : mg "str" = none
  z_tuple : mg "tuple" = none
  z_len : mg "len" = none
  z_all : mg "all" = none
  z_max : mg "max" = none
  z_min : mg "min" = none
  c_LIMIT : ∃ u, mg "LIMIT" = some u ∧ RelV (.int LIM) u
  c_MOST_LETTERS : ∃ u, mg "MOST_LETTERS" = some u ∧ RelV (.int 8) u
  c_MOST_LEVELS : ∃ u, mg "MOST_LEVELS" = some u ∧ RelV (.int 6) u
  c_OPERATORS : ∃ u, mg "OPERATORS" = some u ∧ RelV (.ref aO) u
  c_RESULTS : ∃ u, mg "RESULTS" = some u ∧ RelV (.ref aR) u
  t_ops : ∀ H, SqT K H aO (OPS.map V.str)
  c_LETTERS : ∃ u, mg "LETTERS" = some u ∧ RelV (.str LETS) u
section
variable {P : Program} {w : World} {K : PySem.W.Frag} {mg : Str → Option Value} {base : Heap} {f aO aR : Addr} {fd : FuncData}
theorem ok_is_integer (F : Fun K "is_integer" "is_integer" s_is_integer f fd) (T : Txt K mg aO aR) : FnG P w K mg base CX0 1 f fd ["value"] (spT K isInt) := by
  refine okG F sc_is_integer (fun vs H Q E h => ?_) (fun cdv A outer s H vs Q E hr gd h => ?_)
  · obtain ⟨v, d, G, rfl, _⟩ := h
    rfl
  obtain ⟨v, d, G, rfl, e, hd, fit, q⟩ := h
  refine ⟨_, (pss_one (ps_ret (pe_and (pe_callB (k_isi K) (by rfl) T.z_isinstance (by decide +kernel) (pa_cons (pv 0) (pa_cons (tyv "int" T.z_int (by decide +kernel)) pa_nil))) (pe_one (pe_not (pe_callB (k_isi K) (by rfl) T.z_isinstance (by decide +kernel) (pa_cons (pv 0) (pa_cons (tyv "bool" T.z_bool (by decide +kernel)) pa_nil)))))))), ?_⟩
  walk_at "rd"
  cases d <;> (walk_at "rd"; exact pq_fin q (by walk_at "st") rfl)
theorem ok_is_value (F : Fun K "is_value" "is_value" s_is_value f fd) (T : Txt K mg aO aR) (D_is_integer : Df P w K mg base CX0 1 "is_integer" ["value"] (spT K isInt)) : FnG P w K mg base CX0 2 f fd ["value"] (spT K isVal) := by
  refine okG F sc_is_value (fun vs H Q E h => ?_) (fun cdv A outer s H vs Q E hr gd h => ?_)
  · obtain ⟨v, d, G, rfl, _⟩ := h
    rfl
  obtain ⟨v, d, G, rfl, e, hd, fit, q⟩ := h
  refine ⟨_, (pss_one (ps_ret (pe_and (cl (Df.up D_is_integer (by omega)) hr gd (pa_cons (pv 0) pa_nil)) (pe_one (pe_chain op_le op_le (pe_un un_neg (gcv T.c_LIMIT)) (pv 0) (gcv T.c_LIMIT)))))), ?_⟩
  walk_at "rd"
  cases d with
  | int i =>
    cases hd
    walk_at "rd"
    refine ite2 (fun c => ?_) (fun c => ?_)
    · walk_at "rd"
      exact pq_fin q (by walk_at "st") (by simp only [isVal, c, Bool.true_and])
    · walk_at "rd"
      exact pq_fin q (by walk_at "st") (by simp only [isVal, Bool.not_eq_true] at *; simp only [c, Bool.false_and])
  | _ => walk_at "rd"; exact pq_fin q (by walk_at "st") rfl
theorem bits_of {x : Str} {acc : List V} (l : acc.length = x.cps.size) (h : ∀ (i : Nat) (v : V), acc[i]? = some v → ∃ c, x.cps[i]? = some c ∧ v = V.bl (decide (c ∈ LETS.cps.toList))) : acc = (x.cps.toList.map fun c => decide (c ∈ LETS.cps.toList)).map V.bl := by
  refine List.ext_getElem? fun i => ?_
  by_cases hi : i < acc.length
  · obtain ⟨c, e, q⟩ := h i acc[i] (List.getElem?_eq_getElem hi)
    rw [List.getElem?_eq_getElem hi, q, List.map_map, List.getElem?_map, Array.getElem?_toList, e]
    rfl
  · rw [List.getElem?_eq_none (by omega), List.getElem?_eq_none (by simp; omega)]
theorem ok_is_name (F : Fun K "is_name" "is_name" s_is_name f fd) (T : Txt K mg aO aR) : FnG P w K mg base CX0 1 f fd ["value"] (spT K isNm) := by
  refine okG F sc_is_name (fun vs H Q E h => ?_) (fun cdv A outer s H vs Q E hr gd h => ?_)
  · obtain ⟨v, d, G, rfl, _⟩ := h
    rfl
  obtain ⟨v, d, G, rfl, e, hd, fit, q⟩ := h
  refine ⟨_, (pss_cons (ps_if (pw_or (pt_not (pt_val (pe_callB (k_isi K) (by rfl) T.z_isinstance (by decide +kernel) (pa_cons (pv 0) (pa_cons (tyv "str" T.z_str (by decide +kernel)) pa_nil))))) (pw_or1 (pt_not (pt_chain op_le op_le pe_int (pe_callB (k_len K) (by rfl) T.z_len (by decide +kernel) (pa_cons (pv 0) pa_nil)) (gcv T.c_MOST_LETTERS))))).pt (pss_one (ps_ret pe_bl)) pss_nil)
  (pss_one (ps_ret (pe_callB (k_all K rfl) (by rfl) T.z_all (by decide +kernel) (pa_cons (pe_lc (own := [("letter", 1)]) (by rfl) sc_is_name.nd (pi_str (pv 0)) (blkOk_by (own := [("letter", 1)]) (N := N_is_name) (sc := defScope s_is_name) (by decide +kernel)) (fun _ _ _ _ _ => (pg_name (i := 1) sc_is_name.nd rfl (by first | exact Or.inl rfl | exact Or.inr rfl))) (fun _ _ _ _ _ => pts_nil) (fun _ _ _ _ _ => (pe_cmpR o_inSg (pv 1) (gcv T.c_LETTERS) (by rfl)))) pa_nil))))), ?_⟩
  walk_at "rd"
  cases d with
  | str x =>
    cases hd
    walk_at "rd"
    refine ite2 (fun c => ?_) (fun c => ?_)
    · walk_at "rd"
      refine ite2 (fun c2 => ?_) (fun c2 => ?_)
      · walk_at "rd"
        exact pq_fin q (by walk_at "st") (by simp only [isNm, Bool.not_eq_true', decide_eq_false_iff_not, decide_eq_true_eq] at *; rw [decide_eq_false (show ¬ x.length ≤ 8 by omega)]; simp)
      · walk_at "rd"
        refine lcM Own.nil walk_str e trivial (show x.cps.size < 100000 by have : x.length ≤ 8 := (by have z := c2; simp only [Bool.not_eq_true, Bool.not_eq_false', decide_eq_true_eq] at z; omega); exact Nat.lt_of_le_of_lt this (by decide)) (fun _ _ _ => trivial) (fun i v _ => ∃ c, x.cps[i]? = some c ∧ v = .bl (decide (c ∈ LETS.cps.toList))) (fun _ _ _ _ _ h => h) ?_ ?_
        · rintro i y G1 H1 H1' hi a ⟨rfl, cc, hc, rfl⟩ P kp P'
          walk_at "rd"
          exact kp _ _ _ (At.refl a.e trivial) ⟨cc, hc, rfl⟩
        · intro D acc G' H' a hD hl h
          walk_at "rd"
          have eb := bits_of hl h
          rw [eb] at hD
          refine d_all (sl_of (a.e _ _ hD)) ?_
          exact pq_fin q a.s (by
            simp only [isNm, letters, Bool.not_eq_true', decide_eq_true_eq, decide_eq_false_iff_not, Decidable.not_not] at *
            rw [decide_eq_true (show 1 ≤ x.length by omega), decide_eq_true (show x.length ≤ 8 by omega), List.all_map]
            rfl)
    · walk_at "rd"
      exact pq_fin q (by walk_at "st") (by simp only [isNm, decide_eq_true_eq] at *; rw [decide_eq_false (show ¬ 1 ≤ x.length by omega)]; simp)
  | _ => walk_at "rd"; exact pq_fin q (by walk_at "st") rfl
theorem ok_limited (F : Fun K "limited" "limited" s_limited f fd) (T : Txt K mg aO aR) : FnG P w K mg base CX0 1 f fd ["number"] (spI1 lim) := by
  refine okG F sc_limited (fun vs H Q E h => ?_) (fun cdv A outer s H vs Q E hr gd h => ?_)
  · obtain ⟨n, rfl, _⟩ := h
    rfl
  obtain ⟨n, rfl, q⟩ := h
  refine ⟨_, (pss_one (ps_ret (pe_callB (c_max2 rfl) (by rfl) T.z_max (by decide +kernel) (pa_cons (pe_un un_neg (gcv T.c_LIMIT)) (pa_cons (pe_callB (c_min2 rfl) (by rfl) T.z_min (by decide +kernel) (pa_cons (gcv T.c_LIMIT) (pa_cons (pv 0) pa_nil))) pa_nil))))), ?_⟩
  walk_at "rd"
  exact q
theorem ok_added (F : Fun K "added" "added" s_added f fd) : FnG P w K mg base CX0 1 f fd ["left", "right"] (spI2 (opF "add")) := by
  refine okG F sc_added (fun vs H Q E h => ?_) (fun cdv A outer s H vs Q E hr gd h => ?_)
  · obtain ⟨a, b, rfl, _⟩ := h
    rfl
  obtain ⟨a, b, rfl, ha, hb, q⟩ := h
  refine ⟨_, (pss_one (ps_ret (pe_op op_add (pv 0) (pv 1)))), ?_⟩
  walk_at "rd"
  exact q
theorem ok_subtracted (F : Fun K "subtracted" "subtracted" s_subtracted f fd) : FnG P w K mg base CX0 1 f fd ["left", "right"] (spI2 (opF "sub")) := by
  refine okG F sc_subtracted (fun vs H Q E h => ?_) (fun cdv A outer s H vs Q E hr gd h => ?_)
  · obtain ⟨a, b, rfl, _⟩ := h
    rfl
  obtain ⟨a, b, rfl, ha, hb, q⟩ := h
  refine ⟨_, (pss_one (ps_ret (pe_op op_sub (pv 0) (pv 1)))), ?_⟩
  walk_at "rd"
  exact q
theorem ok_multiplied (F : Fun K "multiplied" "multiplied" s_multiplied f fd) : FnG P w K mg base CX0 1 f fd ["left", "right"] (spI2 (opF "mul")) := by
  refine okG F sc_multiplied (fun vs H Q E h => ?_) (fun cdv A outer s H vs Q E hr gd h => ?_)
  · obtain ⟨a, b, rfl, _⟩ := h
    rfl
  obtain ⟨a, b, rfl, ha, hb, q⟩ := h
  refine ⟨_, (pss_one (ps_ret (pe_op op_mulW (pv 0) (pv 1)))), ?_⟩
  walk_at "rd"
  refine d_tIC (cmul ha (bits hb)) ?_
  exact q
theorem ok_divided (F : Fun K "divided" "divided" s_divided f fd) : FnG P w K mg base CX0 1 f fd ["left", "right"] (spI2 (opF "div")) := by
  refine okG F sc_divided (fun vs H Q E h => ?_) (fun cdv A outer s H vs Q E hr gd h => ?_)
  · obtain ⟨a, b, rfl, _⟩ := h
    rfl
  obtain ⟨a, b, rfl, ha, hb, q⟩ := h
  refine ⟨_, (pss_one (ps_ret (pe_ifExp (pt_cmpR op_eq (pv 1) pe_int (nomark _)) pe_int (pe_op op_fdivX (pv 0) (pv 1))))), ?_⟩
  walk_at "rd"
  by_cases c : b = 0
  · subst c
    walk_at "rd"
    exact q
  · have e : decide (V.int b = V.int 0) = false := decide_eq_false fun z => c (V.int.inj z)
    rw [e]
    walk_at "rd"
    refine d_tIC ⟨c, clog (bits hb)⟩ ?_
    have e2 : opF "div" a b = a.fdiv b := by show (if b = 0 then 0 else a.fdiv b) = _; rw [if_neg c]
    rw [e2] at q
    exact q
theorem ok_remaining (F : Fun K "remaining" "remaining" s_remaining f fd) : FnG P w K mg base CX0 1 f fd ["left", "right"] (spI2 (opF "mod")) := by
  refine okG F sc_remaining (fun vs H Q E h => ?_) (fun cdv A outer s H vs Q E hr gd h => ?_)
  · obtain ⟨a, b, rfl, _⟩ := h
    rfl
  obtain ⟨a, b, rfl, ha, hb, q⟩ := h
  refine ⟨_, (pss_one (ps_ret (pe_ifExp (pt_cmpR op_eq (pv 1) pe_int (nomark _)) pe_int (pe_op op_sub (pv 0) (pe_op op_mulW (pv 1) (pe_op op_fdivX (pv 0) (pv 1))))))), ?_⟩
  walk_at "rd"
  by_cases c : b = 0
  · subst c
    walk_at "rd"
    exact q
  · have e : decide (V.int b = V.int 0) = false := decide_eq_false fun z => c (V.int.inj z)
    rw [e]
    walk_at "rd"
    refine d_tIC ⟨c, clog (bits hb)⟩ ?_
    walk_at "rd"
    refine d_tIC (cmul hb (Nat.lt_of_le_of_lt (Int.natAbs_fdiv_le_natAbs a b) (bits ha))) ?_
    walk_at "rd"
    have e2 : opF "mod" a b = a - b * a.fdiv b := by show (if b = 0 then 0 else a - b * a.fdiv b) = _; rw [if_neg c]
    rw [e2] at q
    exact q
theorem ok_is_less (F : Fun K "is_less" "is_less" s_is_less f fd) (T : Txt K mg aO aR) : FnG P w K mg base CX0 1 f fd ["left", "right"] (spI2 (opF "less")) := by
  refine okG F sc_is_less (fun vs H Q E h => ?_) (fun cdv A outer s H vs Q E hr gd h => ?_)
  · obtain ⟨a, b, rfl, _⟩ := h
    rfl
  obtain ⟨a, b, rfl, ha, hb, q⟩ := h
  refine ⟨_, (pss_one (ps_ret (pe_callTy c_int (by rfl) T.z_int (by decide +kernel) (pa_cons (pe_cmpR op_lt (pv 0) (pv 1) (nomark _)) pa_nil)))), ?_⟩
  walk_at "rd"
  have e2 : opF "less" a b = if decide (a < b) = true then 1 else 0 := by show (if a < b then 1 else 0) = _; simp only [decide_eq_true_eq]
  rw [e2] at q
  exact q
theorem ok_is_same (F : Fun K "is_same" "is_same" s_is_same f fd) (T : Txt K mg aO aR) : FnG P w K mg base CX0 1 f fd ["left", "right"] (spI2 (opF "same")) := by
  refine okG F sc_is_same (fun vs H Q E h => ?_) (fun cdv A outer s H vs Q E hr gd h => ?_)
  · obtain ⟨a, b, rfl, _⟩ := h
    rfl
  obtain ⟨a, b, rfl, ha, hb, q⟩ := h
  refine ⟨_, (pss_one (ps_ret (pe_callTy c_int (by rfl) T.z_int (by decide +kernel) (pa_cons (pe_cmpR op_eq (pv 0) (pv 1) (nomark _)) pa_nil)))), ?_⟩
  walk_at "rd"
  have e2 : opF "same" a b = if decide (V.int a = V.int b) = true then 1 else 0 := by show (if a = b then 1 else 0) = _; simp only [decide_eq_true_eq, V.int.injEq]
  rw [e2] at q
  exact q
theorem inV_str (z : Str) (l : List Str) : inV (.str z) (l.map V.str) = decide (z ∈ l) := by
  unfold inV
  rw [List.any_map]
  induction l with
  | nil => rfl
  | cons a l ih =>
    rw [List.any_cons, ih]
    by_cases e : a = z
    · subst e; simp [eqV]
    · have e' : ¬ z = a := fun q => e q.symm
      simp [eqV, e, e']
theorem flat_strs (l : List Str) : (l.map V.str).all flatV = true := by
  rw [List.all_map]
  exact List.all_eq_true.mpr fun x _ => rfl
theorem ok_is_nested (F : Fun K "is_nested" "is_nested" s_is_nested f fd) (T : Txt K mg aO aR) {n : Nat} (D_is_value : Df P w K mg base CX0 2 "is_value" ["value"] (spT K isVal)) (D_is_name : Df P w K mg base CX0 1 "is_name" ["value"] (spT K isNm))
    (D_is_nested : Df P w K mg base CX0 (n + 3) "is_nested" ["value", "levels"] (spNest K n)) : FnG P w K mg base CX0 (n + 1 + 3) f fd ["value", "levels"] (spNest K (n + 1)) := by
  refine okG F sc_is_nested (fun vs H Q E h => ?_) (fun cdv A outer s H vs Q E hr gd h => ?_)
  · obtain ⟨v, d, G, rfl, _⟩ := h
    rfl
  obtain ⟨v, d, G, rfl, _, e, hd, fit, q⟩ := h
  refine ⟨_, (pss_cons (ps_if (pw_or (pt_val (cl (Df.up D_is_value (by omega)) hr gd (pa_cons (pv 0) pa_nil))) (pw_or1 (pt_val (cl (Df.up D_is_name (by omega)) hr gd (pa_cons (pv 0) pa_nil))))).pt (pss_one (ps_ret pe_bl)) pss_nil)
  (pss_cons (ps_if (pw_or (pt_not (pt_val (pe_callB (k_isi K) (by rfl) T.z_isinstance (by decide +kernel) (pa_cons (pv 0) (pa_cons (tyv "tuple" T.z_tuple (by decide +kernel)) pa_nil))))) (pw_or (pt_cmpR op_ne (pe_callB (k_len K) (by rfl) T.z_len (by decide +kernel) (pa_cons (pv 0) pa_nil)) pe_int (nomark _)) (pw_or1 (pt_cmpR op_eq (pv 1) pe_int (nomark _))))).pt (pss_one (ps_ret pe_bl)) pss_nil)
  (pss_cons (ps_if (pw_or (pt_not (pt_val (pe_callB (k_isi K) (by rfl) T.z_isinstance (by decide +kernel) (pa_cons (pe_ix (k_ix_tup K) (pv 0) pe_int (fun _ _ => rfl)) (pa_cons (tyv "str" T.z_str (by decide +kernel)) pa_nil))))) (pw_or1 (pt_cmpR (k_notIn_seq K) (pe_ix (k_ix_tup K) (pv 0) pe_int (fun _ _ => rfl)) (gcv T.c_OPERATORS) (by rfl)))).pt (pss_one (ps_ret pe_bl)) pss_nil)
  (pss_one (ps_ret (pe_and (cl (Df.up D_is_nested (by omega)) hr gd (pa_cons (pe_ix (k_ix_tup K) (pv 0) pe_int (fun _ _ => rfl)) (pa_cons (pe_op op_sub (pv 1) pe_int) pa_nil))) (pe_one (cl (Df.up D_is_nested (by omega)) hr gd (pa_cons (pe_ix (k_ix_tup K) (pv 0) pe_int (fun _ _ => rfl)) (pa_cons (pe_op op_sub (pv 1) pe_int) pa_nil)))))))))), ?_⟩
  walk_at "rd"
  refine ite2 (fun c => ?_) (fun c => ?_)
  · walk_at "rd"
    exact pq_fin q (by walk_at "st") (by simp only [nested, c, Bool.true_or])
  walk_at "rd"
  refine ite2 (fun c2 => ?_) (fun c2 => ?_)
  · walk_at "rd"
    exact pq_fin q (by walk_at "st") (by simp only [nested, c2, Bool.true_or, Bool.or_true])
  have c' : isVal d = false := Bool.eq_false_iff.mpr c
  have c2' : isNm d = false := Bool.eq_false_iff.mpr c2
  walk_at "rd"
  cases d with
  | tuple ds =>
    cases hd with
    | tup hS hA =>
      rename_i a xs
      walk_at "rd"
      by_cases c3 : xs.length = 3
      · obtain ⟨x0, x1, x2, d0, d1, d2, rfl, rfl, h0, h1, h2⟩ := dq_three hA c3
        have f0 : fitD d0 := fit.1
        have f1 : fitD d1 := fit.2.1
        have f2 : fitD d2 := fit.2.2.1
        clear c3
        walk_at "rd"
        by_cases cn : n = 0
        · subst cn
          walk_at "rd"
          exact pq_fin q (by walk_at "st") (by
            rw [nested_tup, c', c2', Bool.or_self, Bool.false_or]
            show V.bl (op3 d0 (false && false)) = _
            cases d0 <;> simp [op3])
        · have en : decide (V.int ((n + 1 : Nat) : Int) = V.int 1) = false := decide_eq_false fun z => cn (by have := V.int.inj z; omega)
          rw [en]
          walk_at "rd"
          cases d0 with
          | str z =>
            cases h0
            walk_at "rd"
            refine d_inT (T.t_ops _) rfl (flat_strs _) ?_
            rw [inV_str]
            walk_at "rd"
            by_cases cz : z ∈ OPS
            · rw [decide_eq_true cz]
              walk_at "rd"
              refine d_nest (by omega) (by omega) (d := d1) (by walk_at "tr") (by walk_at "tr") f1 (fun G1 H1 s1 e1 => ?_)
              walk_at "rd"
              have fin : ∀ b, (nested n d1 && nested n d2) = b → V.bl (nested (n + 1) (.tuple [.str z, d1, d2])) = V.bl b := fun b hb => by
                rw [nested_tup, c', c2', Bool.or_self, Bool.false_or]
                show V.bl (decide (z ∈ OPS) && (nested n d1 && nested n d2)) = _
                rw [decide_eq_true cz, hb, Bool.true_and]
              refine ite2 (fun c4 => ?_) (fun c4 => ?_)
              · walk_at "rd"
                refine d_nest (by omega) (by omega) (d := d2) (by walk_at "tr") (by walk_at "tr") f2 (fun G2 H2 s2 e2 => ?_)
                exact pq_fin q (by walk_at "st") (fin _ (by rw [c4, Bool.true_and]))
              · exact pq_fin q (by walk_at "st") (fin _ (by rw [Bool.eq_false_iff.mpr c4, Bool.false_and]))
            · rw [decide_eq_false cz]
              walk_at "rd"
              exact pq_fin q (by walk_at "st") (by
                rw [nested_tup, c', c2', Bool.or_self, Bool.false_or]
                show V.bl (decide (z ∈ OPS) && _) = _
                rw [decide_eq_false cz, Bool.false_and])
          | _ => walk_at "rd"; exact pq_fin q (by walk_at "st") (by rw [nested_tup, c', c2', Bool.or_self, Bool.false_or]; rfl)
      · have e3 : decide (V.int ((xs.length : Nat) : Int) = V.int 3) = false := decide_eq_false fun z => c3 (by have := V.int.inj z; omega)
        rw [e3]
        walk_at "rd"
        exact pq_fin q (by walk_at "st") (by
          rw [nested_tup, c', c2', Bool.or_self, Bool.false_or]
          exact congrArg V.bl (tri_no fun h => c3 (hA.len.trans h)))
  | _ => walk_at "rd"; exact pq_fin q (by walk_at "st") (by simp only [nested, c', c2', Bool.or_self])
theorem ok_is_expression (F : Fun K "is_expression" "is_expression" s_is_expression f fd) (T : Txt K mg aO aR) (D_is_nested : Df P w K mg base CX0 9 "is_nested" ["value", "levels"] (spNest K 6)) : FnG P w K mg base CX0 10 f fd ["value"] (spT K (nested 6)) := by
  refine okG F sc_is_expression (fun vs H Q E h => ?_) (fun cdv A outer s H vs Q E hr gd h => ?_)
  · obtain ⟨v, d, G, rfl, _⟩ := h
    rfl
  obtain ⟨v, d, G, rfl, e, hd, fit, q⟩ := h
  refine ⟨_, (pss_one (ps_ret (cl (Df.up D_is_nested (by omega)) hr gd (pa_cons (pv 0) (pa_cons (gcv T.c_MOST_LEVELS) pa_nil))))), ?_⟩
  walk_at "rd"
  exact d_nest rfl (by decide) e hd fit q
/-- what the dict of the operators holds -/
def Ops (P : Program) (w : World) (K : PySem.W.Frag) (mg : Str → Option Value) (base : Heap) (aR : Addr) : Prop := ∀ o ∈ OPS, ∃ f, KDct K w aR o (.ref f) ∧ HeldG P w K mg base 1 f (spI2 (opF o))
theorem ok_computed (F : Fun K "computed" "computed" s_computed f fd) (T : Txt K mg aO aR) (R : Ops P w K mg base aR) {n : Nat} (D_limited : Df P w K mg base CX0 1 "limited" ["number"] (spI1 lim))
    (D_computed : Df P w K mg base CX0 (n + 1) "computed" ["expression", "variables"] (spComp K n)) : FnG P w K mg base CX0 (n + 1 + 1) f fd ["expression", "variables"] (spComp K (n + 1)) := by
  refine okG F sc_computed (fun vs H Q E h => ?_) (fun cdv A outer s H vs Q E hr gd h => ?_)
  · obtain ⟨v, d, G, dk, e, rfl, _⟩ := h
    rfl
  obtain ⟨v, d, G, dk, en, rfl, e, hd, hn, hk, he, q⟩ := h
  refine ⟨_, (pss_cons (ps_if (pt_val (pe_callB (k_isi K) (by rfl) T.z_isinstance (by decide +kernel) (pa_cons (pv 0) (pa_cons (tyv "int" T.z_int (by decide +kernel)) pa_nil)))) (pss_one (ps_ret (pv 0))) pss_nil)
  (pss_cons (ps_if (pt_val (pe_callB (k_isi K) (by rfl) T.z_isinstance (by decide +kernel) (pa_cons (pv 0) (pa_cons (tyv "str" T.z_str (by decide +kernel)) pa_nil)))) (pss_one (ps_ret (pe_dget2 (hu_of hr) (pv 1) (pv 0) pe_int ⟨by rfl, by rfl, by rfl, by rfl⟩))) pss_nil)
  (pss_cons (ps_asg (pv 0) (k_tg K rfl (pgs_cons (pg_name (i := 3) sc_computed.nd rfl (by first | exact Or.inl rfl | exact Or.inr rfl)) (pgs_cons (pg_name (i := 4) sc_computed.nd rfl (by first | exact Or.inl rfl | exact Or.inr rfl)) (pgs_cons (pg_name (i := 5) sc_computed.nd rfl (by first | exact Or.inl rfl | exact Or.inr rfl)) pgs_nil)))))
  (pss_cons (ps_set (i := 2) sc_computed.nd rfl (by first | exact Or.inl rfl | exact Or.inr rfl) (pe_ix ix_kdict (gcv T.c_RESULTS) (pv 3) (fun _ _ => rfl)))
  (pss_one (ps_ret (cl (Df.up D_limited (by omega)) hr gd (pa_cons (pe_callHd (k := 1) (i := 2) (hr.mono (by omega)) gd rfl (.inl rfl) (pa_cons (cl (Df.up D_computed (by omega)) hr gd (pa_cons (pv 4) (pa_cons (pv 1) pa_nil))) (pa_cons (cl (Df.up D_computed (by omega)) hr gd (pa_cons (pv 5) (pa_cons (pv 1) pa_nil))) pa_nil))) pa_nil)))))))), ?_⟩
  walk_at "rd"
  cases d with
  | int i =>
    cases hd
    walk_at "rd"
    exact pq_fin q (by walk_at "st") rfl
  | str x =>
    cases hd
    walk_at "rd"
    refine d_dget2 ?_
    walk_at "rd"
    refine ⟨dk, rfl, .inl ⟨envK en, .inl (e _ _ hk)⟩, ?_⟩
    walk_at "rd"
    refine ⟨_, DGet.k (k := .inr x) (e _ _ hk), ?_⟩
    rw [val_env]
    have hl : (Option.map V.int (en.lookup x)).getD (.int 0) = .int (look en x) := by unfold look; cases en.lookup x <;> rfl
    rw [hl]
    exact pq_fin q (by walk_at "st") rfl
  | tuple ds =>
    obtain ⟨o, l, r, rfl, ho, hl, hr'⟩ := nested_op hn
    cases hd with
    | tup hS hA =>
      cases hA with
      | cons h0 hA =>
      cases hA with
      | cons h1 hA =>
      cases hA with
      | cons h2 hA =>
      cases hA
      have hd0 := Dq.tup hS (.cons h0 (.cons h1 (.cons h2 .nil)))
      cases h0
      obtain ⟨fo, kd, held⟩ := R o ho
      walk_at "rd"
      refine ⟨aR, o, .ref fo, rfl, rfl, kd, ?_⟩
      walk_at "rd"
      refine ⟨fo, _, rfl, held, ?_⟩
      walk_at "rd"
      refine d_comp (d := l) (en := en) (by walk_at "tr") (by walk_at "tr") hl (by walk_at "tr") he (fun G1 H1 s1 e1 => ?_)
      walk_at "rd"
      refine d_comp (d := r) (en := en) (by walk_at "tr") (by walk_at "tr") hr' (by walk_at "tr") he (fun G2 H2 s2 e2 => ?_)
      walk_at "rd"
      refine d_spI2 (valD_in he _ _ hl) (valD_in he _ _ hr') ?_
      walk_at "rd"
      refine d_spI1 ?_
      exact pq_fin q (by walk_at "st") rfl
  | _ => simp [nested, isVal, isNm] at hn
end

abbrev s_law_source : Stmt := topS 28
abbrev N_law_source : List Str := ["_law_script", "_law_place", "_law_cell"]
theorem sc_law_source : FnScope N_law_source ["_law_script", "_law_place"] (defScope s_law_source) := ⟨rfl, rfl, rfl, by decide +kernel, rfl, by decide +kernel, by decide +kernel⟩
abbrev s_law_draw : Stmt := topS 29
abbrev N_law_draw : List Str := ["_law_source_here", "_law_many", "_law_digit"]
theorem sc_law_draw : FnScope N_law_draw ["_law_source_here", "_law_many"] (defScope s_law_draw) := ⟨rfl, rfl, rfl, by decide +kernel, rfl, by decide +kernel, by decide +kernel⟩
abbrev s_law_choose : Stmt := topS 30
abbrev N_law_choose : List Str := ["_law_source_here", "_law_items"]
theorem sc_law_choose : FnScope N_law_choose ["_law_source_here", "_law_items"] (defScope s_law_choose) := ⟨rfl, rfl, rfl, by decide +kernel, rfl, by decide +kernel, by decide +kernel⟩
abbrev s_law_new_word : Stmt := topS 31
abbrev N_law_new_word : List Str := ["_law_source_here", "_law_used", "_law_letters", "_law_word", "_law_turn", "_law_letter"]
theorem sc_law_new_word : FnScope N_law_new_word ["_law_source_here", "_law_used"] (defScope s_law_new_word) := ⟨rfl, rfl, rfl, by decide +kernel, rfl, by decide +kernel, by decide +kernel⟩
/-! ### promises -/
def spSource (K : PySem.W.Frag) : Sp := fun vs H Q _ => ∃ a ns i G, vs = [.ref a, .int (i : Nat)] ∧ Ex G H ∧ SqL K G a ((ns : List Int).map V.int) ∧ i ≤ 1000 ∧ ∀ p H', H p = none → Ste NoM G H G H' → Src p G H' → Q (.ref p) H'
def spDraw : Sp := fun vs H Q _ => ∃ p n G, vs = [.ref p, .int n] ∧ Ex G H ∧ Src p G H ∧ 0 < n ∧ n.natAbs.log2 < 9000 ∧ ∀ d G' H', Sr p G H G' H' → 0 ≤ d → d < n → Q (.int d) H'
def spChoose (K : PySem.W.Frag) : Sp := fun vs H Q _ => ∃ p a xs G, vs = [.ref p, .ref a] ∧ Ex G H ∧ Src p G H ∧ SqL K G a xs ∧ 0 < xs.length ∧ xs.length ≤ 1000 ∧ ∀ x G' H', Sr p G H G' H' → x ∈ xs → Q x H'
def NameOk (w : Str) : Prop := isNm (.str w) = true
def spWord (K : PySem.W.Frag) : Sp := fun vs H Q _ => ∃ p u us G, vs = [.ref p, .ref u] ∧ Ex G H ∧ Src p G H ∧ SqL K G u ((us : List Str).map V.str) ∧ us.length ≤ 25 ∧ ∀ w G' H', Sr p G H G' H' → NameOk w → w ∉ us → Q (.str w) H'
theorem d_draw {p : Addr} {n : Int} {G H : Hp} {Q : VK} {E : XK} (e : Ex G H) (s : Src p G H) (h : 0 < n) (l : n.natAbs.log2 < 9000) (q : ∀ d G' H', Sr p G H G' H' → 0 ≤ d → d < n → Q (.int d) H') : spDraw [.ref p, .int n] H Q E := ⟨p, n, G, rfl, e, s, h, l, q⟩
theorem log_small {n : Nat} (h : n ≤ 100000) : n.log2 < 9000 := by
  by_cases h0 : n = 0
  · subst h0; decide
  · have := (Nat.log2_lt h0 (k := 17)).mpr (by omega)
    omega
theorem pigeon : ∀ (us ws : List Str), ws.Nodup → us.length < ws.length → ∃ w ∈ ws, w ∉ us
  | [], [], _, h => by simp at h
  | [], w :: ws, _, _ => ⟨w, List.mem_cons_self, by simp⟩
  | u :: us, ws, hn, h => by
    have l : (ws.erase u).length + 1 ≥ ws.length := by
      by_cases m : u ∈ ws
      · rw [List.length_erase_of_mem m]; omega
      · rw [List.erase_of_not_mem m]; omega
    obtain ⟨w, hw, hu⟩ := pigeon us (ws.erase u) (hn.erase u) (by simp only [List.length_cons] at h; omega)
    obtain ⟨h1, h2⟩ := hn.mem_erase_iff.mp hw
    exact ⟨w, h2, fun z => by
      rcases List.mem_cons.mp z with z | z
      · exact h1 z
      · exact hu z⟩
def QW : List Str := LETS.cps.toList.map fun c => (⟨#[c]⟩ : Str) ++ "q"
theorem qw_nodup : QW.Nodup := by decide
theorem qw_ok : ∀ w ∈ QW, isNm (.str w) = true := by decide
def LW : List Str := ["add", "sub", "mul", "div", "mod", "less", "same", "set", "loop", "break", "box"]
theorem lw_ok : ∀ w ∈ LW, isNm (.str w) = true := by decide
/-- single letters that stand in a list make up a name -/
theorem word_of {acc : List V} (h : ∀ (i : Nat) (v : V), acc[i]? = some v → ∃ c, c ∈ LETS.cps.toList ∧ v = V.str ⟨#[c]⟩) : ∃ w : Str, acc = (signs w).map V.str ∧ w.length = acc.length ∧ letters w = true := by
  have : ∃ cs : List Nat, acc = cs.map (fun c => V.str ⟨#[c]⟩) ∧ ∀ c ∈ cs, c ∈ LETS.cps.toList := by
    induction acc with
    | nil => exact ⟨[], rfl, by simp⟩
    | cons v vs ih =>
      obtain ⟨c, hc, rfl⟩ := h 0 v rfl
      obtain ⟨cs, rfl, hcs⟩ := ih fun i w z => h (i + 1) w z
      exact ⟨c :: cs, rfl, fun d hd => by
        rcases List.mem_cons.mp hd with z | z
        · exact z ▸ hc
        · exact hcs d z⟩
  obtain ⟨cs, rfl, hcs⟩ := this
  refine ⟨⟨cs.toArray⟩, ?_, ?_, ?_⟩
  · simp [signs, List.map_map]
  · simp [Str.length]
  · unfold letters
    simp only [List.toList_toArray]
    exact List.all_eq_true.mpr fun c hc => decide_eq_true (hcs c hc)
theorem signs_len (w : Str) : (signs w).length = w.length := by simp [signs, Str.length]
theorem signs_sum (w : Str) : ((signs w).map (·.length)).sum = w.length := by
  have : (signs w).map (·.length) = (signs w).map fun _ => 1 := by
    unfold signs
    rw [List.map_map, List.map_map]
    rfl
  rw [this, List.map_const', List.sum_replicate_nat, Nat.mul_one, signs_len]
section
variable {P : Program} {w : World} {K : PySem.W.Frag} {mg : Str → Option Value} {base : Heap} {f : Addr} {fd : FuncData}
theorem ok_source (F : Fun K "_law_source" "_law_source" s_law_source f fd) (T : Blt mg) : FnG P w K mg base CX0 1 f fd ["_law_script", "_law_place"] (spSource K) := by
  refine okG F sc_law_source (fun vs H Q E h => ?_) (fun cdv A outer s H vs Q E hr gd h => ?_)
  · obtain ⟨a, ns, i, G, rfl, _⟩ := h
    rfl
  obtain ⟨a, ns, i, G, rfl, e, hs, hi, q⟩ := h
  refine ⟨_, (pss_cons (ps_set (i := 2) sc_law_source.nd rfl (by first | exact Or.inl rfl | exact Or.inr rfl) (pe_ifExp (pt_cmpR op_lt (pv 1) (pe_callB (k_len K) (by rfl) T.z_len (by decide +kernel) (pa_cons (pv 0) pa_nil)) (nomark _)) (pe_callB c_abs (by rfl) T.z_abs (by decide +kernel) (pa_cons (pe_ix (k_ix_list K) (pv 0) (pv 1) (fun _ _ => rfl)) pa_nil)) pe_int))
  (pss_one (ps_ret (pe_lst (pa_cons (pe_callB (c_max2 rfl) (by rfl) T.z_max (by decide +kernel) (pa_cons pe_int (pa_cons (pe_op op_sub (pv 2) (pe_op op_pow pe_int pe_int)) pa_nil))) (pa_cons (pe_op op_add (pe_op op_mod (pe_op op_pow (pe_op op_add (pe_op op_add (pe_op op_mod (pv 2) pe_int) (pe_op op_mulW pe_int (pv 1))) pe_int) pe_int) pe_int) pe_int) pa_nil)))))), ?_⟩
  walk_at "rd"
  refine ite2 (fun c => ?_) (fun c => ?_)
  · have hl : i < ns.length := by simp only [decide_eq_true_eq, List.length_map] at c; omega
    refine (d_cb (d_cons (d_op (d_var rfl (d_var rfl (d_ixL (xs := ns.map V.int) (v := .int ns[i]) (by walk_at "tr") (atI_nat (by rw [List.getElem?_map, List.getElem?_eq_getElem hl]; rfl)) (d_nil (d_abs ?_))))))))
    walk_at "rd"
    refine d_ownL e (by show 2 ≤ 100000; decide) (fun p H1 eH s1 gp np => q p H1 np s1 ⟨gp, _, _, eH ▸ upd_same, ?_, ?_, ?_⟩) <;> omega
  · walk_at "rd"
    refine d_ownL e (by show 2 ≤ 100000; decide) (fun p H1 eH s1 gp np => q p H1 np s1 ⟨gp, _, _, eH ▸ upd_same, ?_, ?_, ?_⟩) <;> omega
theorem ok_draw (F : Fun K "_law_draw" "_law_draw" s_law_draw f fd) (T : Blt mg) : FnG P w K mg base CX0 1 f fd ["_law_source_here", "_law_many"] spDraw := by
  refine okG F sc_law_draw (fun vs H Q E h => ?_) (fun cdv A outer s H vs Q E hr gd h => ?_)
  · obtain ⟨p, n, G, rfl, _⟩ := h
    rfl
  obtain ⟨p, n, G, rfl, e, sr, hn, hl, q⟩ := h
  obtain ⟨a, b, hp, ha, hb, hb2⟩ := sr.h
  refine ⟨_, (pss_cons (ps_if (pt_cmpR op_gt (pe_ix (k_ix_list K) (pv 0) pe_int (fun _ _ => rfl)) pe_int (nomark _)) (pss_cons (ps_asg (pe_callB c_divmod (by rfl) T.z_divmod (by decide +kernel) (pa_cons (pe_ix (k_ix_list K) (pv 0) pe_int (fun _ _ => rfl)) (pa_cons (pv 1) pa_nil))) (k_tg K rfl (pgs_cons (pg_sub (pv 0) pe_int set_list) (pgs_cons (pg_name (i := 2) sc_law_draw.nd rfl (by first | exact Or.inl rfl | exact Or.inr rfl)) pgs_nil))))
  (pss_one (ps_ret (pv 2)))) pss_nil)
  (pss_cons (ps_asg (pe_op op_mod (pe_op op_add (pe_op op_mulW (pe_ix (k_ix_list K) (pv 0) pe_int (fun _ _ => rfl)) pe_int) pe_int) pe_int) (pg_sub (pv 0) pe_int set_list))
  (pss_one (ps_ret (pe_op op_mod (pe_op op_fdivW (pe_op op_mod (pe_op op_mulW (pe_ix (k_ix_list K) (pv 0) pe_int (fun _ _ => rfl)) (pe_ix (k_ix_list K) (pv 0) pe_int (fun _ _ => rfl))) pe_int) pe_int) (pv 1)))))), ?_⟩
  walk_at "rd"
  refine ite2 (fun c => ?_) (fun c => ?_)
  · walk_at "rd"
    refine d_dvm hn hl e (fun t G1 H1 s1 e1 h1 => ?_)
    have hp1 : H1 p = some (.lst [.int a, .int b]) := s1.k p _ (fun z => z) hp
    walk_at "rd"
    refine d_setL hp1 rfl rfl (fun H2 e2 h2 => ?_)
    walk_at "rd"
    subst e2
    exact q _ _ _ (sr_put ⟨s1.any, e1, (Own.src p).step _ _ _ _ s1 sr⟩ (Int.ediv_nonneg ha (by omega)) hb hb2) (Int.emod_nonneg _ (by omega)) (Int.emod_lt_of_pos _ hn)
  · walk_at "rd"
    refine d_setL hp rfl rfl (fun H2 e2 h2 => ?_)
    walk_at "rd"
    subst e2
    refine q _ _ _ (sr_put (At.refl e sr) ha (by omega) (by omega)) ?_ ?_
    · exact Int.emod_nonneg _ (by omega)
    · exact Int.emod_lt_of_pos _ hn
theorem ok_choose (F : Fun K "_law_choose" "_law_choose" s_law_choose f fd) (T : Blt mg) (D_law_draw : Df P w K mg base CX0 1 "_law_draw" ["_law_source_here", "_law_many"] spDraw) : FnG P w K mg base CX0 2 f fd ["_law_source_here", "_law_items"] (spChoose K) := by
  refine okG F sc_law_choose (fun vs H Q E h => ?_) (fun cdv A outer s H vs Q E hr gd h => ?_)
  · obtain ⟨p, a, xs, G, rfl, _⟩ := h
    rfl
  obtain ⟨p, a, xs, G, rfl, e, sr, hs, h0, h1, q⟩ := h
  refine ⟨_, (pss_one (ps_ret (pe_ix (k_ix_list K) (pv 1) (cl (Df.up D_law_draw (by omega)) hr gd (pa_cons (pv 0) (pa_cons (pe_callB (k_len K) (by rfl) T.z_len (by decide +kernel) (pa_cons (pv 1) pa_nil)) pa_nil))) (fun _ _ => rfl)))), ?_⟩
  walk_at "rd"
  refine d_draw e sr (by omega) (by rw [Int.natAbs_natCast]; exact log_small (by omega)) (fun d G1 H1 s1 l1 l2 => ?_)
  walk_at "rd"
  have hd : d.toNat < xs.length := by omega
  refine d_ixL (xs := xs) (v := xs[d.toNat]) (by walk_at "tr") (at_int l1 (List.getElem?_eq_getElem hd)) ?_
  exact q _ _ _ s1 (List.getElem_mem _)
theorem ok_new_word (F : Fun K "_law_new_word" "_law_new_word" s_law_new_word f fd) (T : Blt mg) (D_law_draw : Df P w K mg base CX0 1 "_law_draw" ["_law_source_here", "_law_many"] spDraw) (D_law_choose : Df P w K mg base CX0 2 "_law_choose" ["_law_source_here", "_law_items"] (spChoose K)) :
    FnG P w K mg base CX0 3 f fd ["_law_source_here", "_law_used"] (spWord K) := by
  refine okG F sc_law_new_word (fun vs H Q E h => ?_) (fun cdv A outer s H vs Q E hr gd h => ?_)
  · obtain ⟨p, u, us, G, rfl, _⟩ := h
    rfl
  obtain ⟨p, u, us, G, rfl, e, sr, hs, hl, q⟩ := h
  refine ⟨_, (pss_cons (ps_set (i := 2) sc_law_new_word.nd rfl (by first | exact Or.inl rfl | exact Or.inr rfl) pe_str)
  (pss_cons (ps_set (i := 3) sc_law_new_word.nd rfl (by first | exact Or.inl rfl | exact Or.inr rfl) (k_join K pe_str (pe_lc (own := [("_law_turn", 4)]) (by rfl) sc_law_new_word.nd (pi_range1 rfl T.z_range (pa_cons (pe_ix (k_ix_list K) (pe_lst (pa_cons pe_int (pa_cons pe_int (pa_cons pe_int pa_nil)))) (cl (Df.up D_law_draw (by omega)) hr gd (pa_cons (pv 0) (pa_cons pe_int pa_nil))) (fun _ _ => rfl)) pa_nil)) (blkOk_by (own := [("_law_turn", 4)]) (N := N_law_new_word) (sc := defScope s_law_new_word) (by decide +kernel)) (fun _ _ _ _ _ => (pg_name (i := 4) sc_law_new_word.nd rfl (by first | exact Or.inl rfl | exact Or.inr rfl))) (fun _ _ _ _ _ => pts_nil) (fun _ _ _ _ _ => (pe_ix ix_str (pv 2) (cl (Df.up D_law_draw (by omega)) hr gd (pa_cons (pv 0) (pa_cons pe_int pa_nil))) (fun _ _ => rfl))))))
  (C8.pss_cut (ps_if (pt_cmpR op_eq (cl (Df.up D_law_draw (by omega)) hr gd (pa_cons (pv 0) (pa_cons pe_int pa_nil))) pe_int (nomark _)) (pss_one (ps_set (i := 3) sc_law_new_word.nd rfl (by first | exact Or.inl rfl | exact Or.inr rfl) (cl (Df.up D_law_choose (by omega)) hr gd (pa_cons (pv 0) (pa_cons (pe_lst (pa_cons pe_str (pa_cons pe_str (pa_cons pe_str (pa_cons pe_str (pa_cons pe_str (pa_cons pe_str (pa_cons pe_str (pa_cons pe_str (pa_cons pe_str (pa_cons pe_str (pa_cons pe_str pa_nil)))))))))))) pa_nil))))) pss_nil)
  (pss_cons (ps_if (pt_cmpR (k_in_seq K) (pv 3) (pv 1) (by rfl)) (pss_one (ps_set (i := 3) sc_law_new_word.nd rfl (by first | exact Or.inl rfl | exact Or.inr rfl) (pe_ix (k_ix_list K) (pe_lc (own := [("_law_letter", 5)]) (by rfl) sc_law_new_word.nd (pi_str (pv 2)) (blkOk_by (own := [("_law_letter", 5)]) (N := N_law_new_word) (sc := defScope s_law_new_word) (by decide +kernel)) (fun _ _ _ _ _ => (pg_name (i := 5) sc_law_new_word.nd rfl (by first | exact Or.inl rfl | exact Or.inr rfl))) (fun _ _ _ _ _ => (pts_one (pt_cmpR (k_notIn_seq K) (pe_op o_addS (pv 5) pe_str) (pv 1) (by rfl)))) (fun _ _ _ _ _ => (pe_op o_addS (pv 5) pe_str))) pe_int (fun _ _ => rfl)))) pss_nil)
  (pss_one (ps_ret (pv 3))))))), ?_⟩
  walk_at "rd"
  refine ⟨⟨_, rfl⟩, ?_⟩
  walk_at "rd"
  refine d_mkL (by exact Nat.le_of_ble_eq_true rfl) e (fun t G1 H1 s1 e1 h1 => ?_)
  walk_at "rd"
  refine d_draw e1 (by walk_at "sr") (by decide) (by decide) (fun d G2 H2 s2 a1 a2 => ?_)
  walk_at "rd"
  obtain ⟨n, hn1, hn2, hat⟩ : ∃ n : Nat, 1 ≤ n ∧ n ≤ 8 ∧ atI [V.int 1, V.int 2, V.int 8] d = some (.int n) := by
    have : d = 0 ∨ d = 1 ∨ d = 2 := by omega
    rcases this with rfl | rfl | rfl
    · exact ⟨1, by decide, by decide, rfl⟩
    · exact ⟨2, by decide, by decide, rfl⟩
    · exact ⟨8, by decide, by decide, rfl⟩
  refine d_ixL (by walk_at "tr") hat ?_
  walk_at "rd"
  refine d_ir (by omega) (by omega) ?_
  refine lcM (Own.src p) walk_range (M := fun a => a = p) (G := G2) (by walk_at "tr") (by walk_at "sr") (by omega) (fun _ _ _ => trivial) (fun _ v _ => ∃ c, c ∈ LETS.cps.toList ∧ v = .str ⟨#[c]⟩) (fun _ _ _ _ _ r => r) ?_ ?_
  · rintro i x G3 H3 H3' hi a3 ⟨rfl, y2⟩ P hP P'
    walk_at "rd"
    refine d_draw (by walk_at "tr") (by walk_at "sr") (by decide) (by decide) (fun c G4 H4 b4 c1 c2 => ?_)
    have lc : c.toNat < LETS.cps.toList.length := by show c.toNat < 26; omega
    walk_at "rd"
    exact d_ixS (z := LETS) (c := LETS.cps.toList[c.toNat]) (by decide) (at_int c1 (List.getElem?_eq_getElem lc)) (hP _ G4 H4 b4 ⟨_, List.getElem_mem _, rfl⟩)
  · intro D acc G3 H3 a3 gD la hacc
    obtain ⟨w, rfl, lw, hw⟩ := word_of hacc
    refine ⟨"", D, signs w, rfl, rfl, .inl (by walk_at "tr"), ?_, ?_⟩
    · rw [signs_sum, lw, la]
      show _ + _ * 0 ≤ _
      omega
    rw [show Txt.join "" (signs w) = w from (StrLaws.glued_eq_join _ _).trans (join_nil_signs w)]
    have nw : isNm (.str w) = true := by
      show (decide _ && decide _ && _) = true
      rw [hw, lw, la]
      simp only [Bool.and_true, Bool.and_eq_true, decide_eq_true_eq]
      omega
    walk_at "rd"
    refine d_cut (fun σ' H' => ∃ w' G', σ' = ((L2.start N_law_new_word [V.ref p, V.ref u]).set 2 (some (V.str "abcdefghijklmnopqrstuvwxyz"))).set 3 (some (V.str w')) ∧ NameOk w' ∧ Sr p G H G' H') ?_ ?_
    · walk_at "rd"
      refine d_draw (by walk_at "tr") (by walk_at "sr") (by decide) (by decide) (fun d5 G5 H5 s5 b1 b2 => ?_)
      walk_at "rd"
      refine ite2 (fun c => ?_) (fun c => ?_)
      · walk_at "rd"
        refine d_mkL (by exact Nat.le_of_ble_eq_true rfl) (G := G5) (by walk_at "tr") (fun t6 G6 H6 s6 e6 h6 => ?_)
        walk_at "rd"
        refine ⟨p, t6, LW.map V.str, G6, rfl, e6, by walk_at "sr", sl_of h6, by decide, by decide, fun x G7 H7 s7 hx => ?_⟩
        obtain ⟨w', hw', rfl⟩ := List.mem_map.mp hx
        walk_at "rd"
        exact ⟨w', G7, rfl, lw_ok w' hw', by walk_at "at"⟩
      · walk_at "rd"
        exact ⟨w, G5, rfl, nw, by walk_at "at"⟩
    · rintro σ' H' ⟨w', G', rfl, nw', s7⟩
      walk_at "rd"
      refine d_inL (xs := us.map V.str) (by walk_at "tr") rfl (flat_strs _) ?_
      rw [if_neg Bool.false_ne_true, inV_str]
      walk_at "rd"
      refine ite2 (fun c => ?_) (fun c => ?_)
      · walk_at "rd"
        refine lcS (Own.src p) (walk_str (z := LETS)) (M := fun a => a = p) (G := G') (by walk_at "tr") (by walk_at "sr") (by decide) (fun _ _ _ => trivial) (fun i acc _ => acc = ((QW.take i).filter fun w => decide (w ∉ us)).map V.str) rfl ?_ (fun _ _ _ _ r => r) ?_ ?_
        · rintro i acc _ rfl
          rw [List.length_map]
          exact Nat.le_trans (List.length_filter_le _ _) (by rw [List.length_take]; omega)
        · rintro i x acc G8 H8 H8' hi a8 rfl ⟨rfl, c8, hc, rfl⟩ P P' hP hP'
          have hq : QW[i]? = some ((⟨#[c8]⟩ : Str) ++ "q") := by
            unfold QW
            rw [List.getElem?_map, Array.getElem?_toList, hc]; rfl
          have ht : QW.take (i + 1) = QW.take i ++ [(⟨#[c8]⟩ : Str) ++ "q"] := by rw [List.take_add_one, hq]; rfl
          walk_at "rd"
          refine d_addS (by exact Nat.le_of_ble_eq_true rfl) ?_
          walk_at "rd"
          refine d_inL (xs := us.map V.str) (by walk_at "tr") rfl (flat_strs _) ?_
          rw [if_pos rfl, inV_str]
          walk_at "rd"
          refine ite2 (fun c => ?_) (fun c => ?_)
          · walk_at "rd"
            refine d_addS (by exact Nat.le_of_ble_eq_true rfl) (hP _ G8 _ (At.refl a8.e a8.o) ?_)
            rw [ht, List.filter_append, List.map_append]
            rw [show [(⟨#[c8]⟩ : Str) ++ "q"].filter (fun w => decide (w ∉ us)) = [(⟨#[c8]⟩ : Str) ++ "q"] from by rw [List.filter_cons_of_pos (by simpa using c)]; rfl]
            rfl
          · refine hP' G8 _ (At.refl a8.e a8.o) ?_
            rw [ht, List.filter_append, List.map_append]
            rw [show [(⟨#[c8]⟩ : Str) ++ "q"].filter (fun w => decide (w ∉ us)) = [] from by rw [List.filter_cons_of_neg (by simpa using c)]; rfl]
            exact (List.append_nil _).symm
        · rintro D acc G8 H8 a8 gD rfl
          obtain ⟨wx, hwx, hnu⟩ := pigeon us QW qw_nodup (Nat.lt_of_le_of_lt hl (by decide))
          have hm : wx ∈ (QW.take LETS.cps.size).filter fun w => decide (w ∉ us) := List.mem_filter.mpr ⟨hwx, decide_eq_true hnu⟩
          cases hf : (QW.take LETS.cps.size).filter fun w => decide (w ∉ us) with
          | nil => rw [hf] at hm; cases hm
          | cons z zs =>
            have hz : z ∈ (QW.take LETS.cps.size).filter fun w => decide (w ∉ us) := by rw [hf]; exact List.mem_cons_self
            obtain ⟨hz1, hz2⟩ := List.mem_filter.mp hz
            rw [hf] at gD
            have gD : G8 D = some (.lst (V.str z :: zs.map V.str)) := gD
            refine d_ixL (xs := V.str z :: zs.map V.str) (v := V.str z) (by walk_at "tr") (at_int (by decide) rfl) ?_
            walk_at "rd"
            exact q z G8 H8 (by walk_at "at") (qw_ok z hz1) (of_decide_eq_true hz2)
      · walk_at "rd"
        exact q w' G' H' s7 nw' (by simpa using c)
end

abbrev s_law_new_words : Stmt := topS 32
abbrev N_law_new_words : List Str := ["_law_source_here", "_law_many", "_law_used", "_law_found", "_law_turn"]
theorem sc_law_new_words : FnScope N_law_new_words ["_law_source_here", "_law_many", "_law_used"] (defScope s_law_new_words) := ⟨rfl, rfl, rfl, by decide +kernel, rfl, by decide +kernel, by decide +kernel⟩
abbrev s_law_value : Stmt := topS 33
abbrev N_law_value : List Str := ["_law_source_here", "_law_way", "_law_size"]
theorem sc_law_value : FnScope N_law_value ["_law_source_here"] (defScope s_law_value) := ⟨rfl, rfl, rfl, by decide +kernel, rfl, by decide +kernel, by decide +kernel⟩
abbrev s_law_expression : Stmt := topS 34
abbrev N_law_expression : List Str := ["_law_source_here", "_law_names", "_law_levels", "_law_way", "_law_word", "_law_left"]
theorem sc_law_expression : FnScope N_law_expression ["_law_source_here", "_law_names", "_law_levels"] (defScope s_law_expression) := ⟨rfl, rfl, rfl, by decide +kernel, rfl, by decide +kernel, by decide +kernel⟩
def spWords (K : PySem.W.Frag) : Sp := fun vs H Q _ => ∃ p u m us G, vs = [.ref p, .int (m : Nat), .ref u] ∧ Ex G H ∧ Src p G H ∧ SqL K G u ((us : List Str).map V.str) ∧ us.length + m ≤ 25 ∧
  ∀ r ws G' H', Sr p G H G' H' → G' r = some (.lst ((ws : List Str).map V.str)) → ws.length = m → (∀ x ∈ ws, NameOk x) → (us.Nodup → (us ++ ws).Nodup) → Q (.ref r) H'
def spVal : Sp := fun vs H Q _ => ∃ p G, vs = [.ref p] ∧ Ex G H ∧ Src p G H ∧ ∀ n G' H', Sr p G H G' H' → InL n → Q (.int n) H'
def only (us : List Str) : Nat → PyData → Bool
  | 0, _ => true
  | _ + 1, .str x => decide (x ∈ us)
  | n + 1, .tuple [.str _, l, r] => only us n l && only us n r
  | _ + 1, _ => true
theorem nested_up : ∀ {n : Nat} {d : PyData}, nested n d = true → nested (n + 1) d = true
  | 0, _, h => by cases h
  | n + 1, d, h => by
    unfold nested at h ⊢
    rw [Bool.or_eq_true] at h ⊢
    refine h.imp id fun h => ?_
    cases d with
    | tuple ds =>
      have h : tri (nested n) ds = true := h
      show tri (nested (n + 1)) ds = true
      match ds, h with
      | [o, l, r], h =>
        cases o with
        | str z =>
          have h : (decide (z ∈ OPS) && (nested n l && nested n r)) = true := h
          simp only [Bool.and_eq_true] at h
          show (decide (z ∈ OPS) && (nested (n + 1) l && nested (n + 1) r)) = true
          rw [h.1, nested_up h.2.1, nested_up h.2.2]; rfl
        | _ => cases h
    | _ => cases h
theorem nested_le {n m : Nat} {d : PyData} (l : n ≤ m) (h : nested n d = true) : nested m d = true := by
  induction l with
  | refl => exact h
  | step _ ih => exact nested_up ih
theorem only_up {us : List Str} : ∀ {n : Nat} {d : PyData}, nested n d = true → only us n d = true → only us (n + 1) d = true
  | 0, _, h, _ => by cases h
  | n + 1, .str x, _, h => h
  | n + 1, .tuple ds, h, q => by
    obtain ⟨o, l, r, rfl, _, hl, hr⟩ := nested_op h
    have q : (only us n l && only us n r) = true := q
    rw [Bool.and_eq_true] at q
    show (only us (n + 1) l && only us (n + 1) r) = true
    rw [only_up hl q.1, only_up hr q.2]; rfl
  | n + 1, .int _, _, _ => rfl
  | n + 1, .none, _, _ => rfl
  | n + 1, .bool _, _, _ => rfl
  | n + 1, .list _, _, _ => rfl
  | n + 1, .dict _, _, _ => rfl
theorem only_le {us : List Str} {n m : Nat} {d : PyData} (l : n ≤ m) (h : nested n d = true) (q : only us n d = true) : only us m d = true := by
  induction l with
  | refl => exact q
  | step l ih => exact only_up (nested_le l h) ih
def spTerm (K : PySem.W.Frag) (n : Nat) : Sp := fun vs H Q _ => ∃ p u us G, vs = [.ref p, .ref u, .int (n : Nat)] ∧ Ex G H ∧ Src p G H ∧ SqL K G u ((us : List Str).map V.str) ∧ us.length ≤ 1000 ∧ (∀ x ∈ us, NameOk x) ∧ 1 ≤ n ∧
  ∀ v d G' H', Sr p G H G' H' → Dq K G' v d → nested n d = true → fitD d → only us n d = true → Q v H'
theorem name_ok {x : Str} (h : NameOk x) : PyData.strOk x = true := by
  have h : (decide (1 ≤ x.length) && decide (x.length ≤ 8) && letters x) = true := h
  rw [Bool.and_eq_true] at h
  have h2 := h.2
  unfold letters at h2
  unfold PyData.strOk
  rw [List.all_eq_true] at h2
  rw [← Array.all_toList, List.all_eq_true]
  intro c hc
  have := of_decide_eq_true (h2 c hc)
  have all : ∀ c ∈ LETS.cps.toList, decide (c < 0x110000) = true := by decide
  exact all c this
theorem nested_int (n : Nat) {i : Int} (h : InL i) : nested (n + 1) (.int i) = true := by
  have h1 : isVal (.int i) = true := by
    show (decide _ && decide _) = true
    rw [decide_eq_true h.1, decide_eq_true h.2]; rfl
  unfold nested
  rw [h1]; rfl
theorem nested_str (n : Nat) {x : Str} (h : NameOk x) : nested (n + 1) (.str x) = true := by
  have h1 : isNm (.str x) = true := h
  unfold nested
  rw [h1]; simp
theorem d_val {p : Addr} {G H : Hp} {Q : VK} {E : XK} (e : Ex G H) (s : Src p G H) (q : ∀ n G' H', Sr p G H G' H' → InL n → Q (.int n) H') : spVal [.ref p] H Q E := ⟨p, G, rfl, e, s, q⟩
theorem d_cho {K : PySem.W.Frag} {p a : Addr} {xs : List V} {G H : Hp} {Q : VK} {E : XK} (e : Ex G H) (s : Src p G H) (h : SqL K G a xs) (h0 : 0 < xs.length) (h1 : xs.length ≤ 1000) (q : ∀ x G' H', Sr p G H G' H' → x ∈ xs → Q x H') : spChoose K [.ref p, .ref a] H Q E := ⟨p, a, xs, G, rfl, e, s, h, h0, h1, q⟩
theorem d_term {K : PySem.W.Frag} {p u : Addr} {us : List Str} {n : Nat} {i : Int} {G H : Hp} {Q : VK} {E : XK} (hi : i = (n : Int)) (e : Ex G H) (s : Src p G H) (h : SqL K G u (us.map V.str)) (l : us.length ≤ 1000) (o : ∀ x ∈ us, NameOk x) (h1 : 1 ≤ n)
    (q : ∀ v d G' H', Sr p G H G' H' → Dq K G' v d → nested n d = true → fitD d → only us n d = true → Q v H') : spTerm K n [.ref p, .ref u, .int i] H Q E := ⟨p, u, us, G, by rw [hi], e, s, h, l, o, h1, q⟩
theorem d_word {K : PySem.W.Frag} {p u : Addr} {us : List Str} {G H : Hp} {Q : VK} {E : XK} (e : Ex G H) (s : Src p G H) (h : SqL K G u (us.map V.str)) (l : us.length ≤ 25) (q : ∀ w G' H', Sr p G H G' H' → NameOk w → w ∉ us → Q (.str w) H') : spWord K [.ref p, .ref u] H Q E := ⟨p, u, us, G, rfl, e, s, h, l, q⟩
section
variable {P : Program} {w : World} {K : PySem.W.Frag} {mg : Str → Option Value} {base : Heap} {f : Addr} {fd : FuncData}
theorem ok_new_words (F : Fun K "_law_new_words" "_law_new_words" s_law_new_words f fd) (T : Blt mg) (D_law_new_word : Df P w K mg base CX0 3 "_law_new_word" ["_law_source_here", "_law_used"] (spWord K)) :
    FnG P w K mg base CX0 4 f fd ["_law_source_here", "_law_many", "_law_used"] (spWords K) := by
  refine okG F sc_law_new_words (fun vs H Q E h => ?_) (fun cdv A outer s H vs Q E hr gd h => ?_)
  · obtain ⟨p, u, m, us, G, rfl, _⟩ := h
    rfl
  obtain ⟨p, u, m, us, G, rfl, e, sr, hs, hl, q⟩ := h
  refine ⟨_, (pss_cons (ps_set (i := 3) sc_law_new_words.nd rfl (by first | exact Or.inl rfl | exact Or.inr rfl) (pe_callTy (k_list K) (by rfl) T.z_list (by decide +kernel) (pa_cons (pv 2) pa_nil)))
  (pss_cons (ps_for PassesOwn.never rfl (pi_range1 rfl T.z_range (pa_cons (pv 1) pa_nil)) (pg_name (i := 4) sc_law_new_words.nd rfl (by first | exact Or.inl rfl | exact Or.inr rfl)) (pss_one (ps_expr (pe_bm PySem.F.plainAttrs_list PySem.F.slot_list_append PySem.F.type_list_append mt_append (pv 3) (pa_cons (cl (Df.up D_law_new_word (by omega)) hr gd (pa_cons (pv 0) (pa_cons (pv 3) pa_nil))) pa_nil)))))
  (pss_one (ps_ret (pe_slice (k_sl_list K) (pv 3) (po_some (pe_callB (k_len K) (by rfl) T.z_len (by decide +kernel) (pa_cons (pv 2) pa_nil))) po_none))))), ?_⟩
  walk_at "rd"
  refine d_ltL (G := G) (xs := us.map V.str) (by walk_at "tr") e (fun L H1 s1 gL hL eH1 => ?_)
  have np : L ≠ p := src_ne sr hL
  have k1 : Kp p G H H1 := .own e sr s1
  clear s1
  walk_at "rd"
  refine d_ir (by omega) (by omega) ?_
  refine for_it walk_range (fun i σ Hi => ∃ ws o4, σ = ((L2.start N_law_new_words [V.ref p, V.int (m : Nat), V.ref u]).set 3 (some (V.ref L))).set 4 o4 ∧ Kp p G H Hi ∧ Hi L = some (.lst ((us ++ ws).map V.str)) ∧ ws.length = i ∧ (∀ x ∈ ws, NameOk x) ∧ (us.Nodup → (us ++ ws).Nodup))
    ⟨[], none, rfl, k1, by rw [eH1, upd_same, List.append_nil], rfl, by simp, by simp⟩ (fun _ _ _ _ _ => trivial) ?_ ?_
  · rintro i x σ Hi Hi' hi ⟨ws, o4, rfl, a, hL2, lw, nw, nd⟩ ⟨rfl, rfl⟩
    walk_at "rd"
    refine d_tyL hL2 ?_
    walk_at "rd"
    have e2 := ex_tell a.e hL2
    refine d_word (us := us ++ ws) e2 (src_tell a.s gL np) (sl_of upd_same) (by rw [List.length_append]; omega) (fun x G2 H2 s2 ox nx => ?_)
    have hL3 : H2 L = _ := s2.s.k L _ np hL2
    have k2 : Kp p G Hi' H2 := .forget s2 (ex_upd gL)
    walk_at "rd"
    refine app_some hL3 (by rw [List.length_map, List.length_append]; omega) (fun H3 e3 => ?_)
    have k3 : Kp p G H H3 := e3 ▸ (a.trans k2).upd hL gL np
    refine ⟨ws ++ [x], _, rfl, k3, by rw [e3, upd_same, ← List.append_assoc, List.map_append (l₁ := us ++ ws)]; rfl, by rw [List.length_append, lw]; rfl, fun y hy => ?_, fun hu => ?_⟩
    · rcases List.mem_append.mp hy with z | z
      · exact nw y z
      · rw [List.mem_singleton.mp z]; exact ox
    · rw [← List.append_assoc]
      exact List.nodup_append.mpr ⟨nd hu, by simp, fun y hy z hz c => nx (by rw [List.mem_singleton.mp hz] at c; exact c ▸ hy)⟩
  · rintro σ Hi ⟨ws, o4, rfl, a, hL2, lw, nw, nd⟩
    walk_at "rd"
    refine d_slL (sl_of hL2) (G := G) (by walk_at "tr") (fun r G2 H2 s2 e2 h2 => ?_)
    walk_at "rd"
    refine q r ws G2 H2 (by walk_at "at") ?_ (by rw [lw]; omega) nw nd
    rw [h2, List.length_map, cut_from, List.map_append, List.length_append, List.length_map, Nat.min_eq_left (by omega), List.drop_left' (List.length_map ..)]
theorem ok_value (F : Fun K "_law_value" "_law_value" s_law_value f fd) (T : Blt mg) (D_law_draw : Df P w K mg base CX0 1 "_law_draw" ["_law_source_here", "_law_many"] spDraw) : FnG P w K mg base CX0 2 f fd ["_law_source_here"] spVal := by
  refine okG F sc_law_value (fun vs H Q E h => ?_) (fun cdv A outer s H vs Q E hr gd h => ?_)
  · obtain ⟨p, G, rfl, _⟩ := h
    rfl
  obtain ⟨p, G, rfl, e, sr, q⟩ := h
  refine ⟨_, (pss_cons (ps_set (i := 1) sc_law_value.nd rfl (by first | exact Or.inl rfl | exact Or.inr rfl) (cl (Df.up D_law_draw (by omega)) hr gd (pa_cons (pv 0) (pa_cons pe_int pa_nil))))
  (pss_cons (ps_set (i := 2) sc_law_value.nd rfl (by first | exact Or.inl rfl | exact Or.inr rfl) (cl (Df.up D_law_draw (by omega)) hr gd (pa_cons (pv 0) (pa_cons (pe_ix (k_ix_list K) (pe_lst (pa_cons pe_int (pa_cons pe_int (pa_cons (pe_op op_add (pe_op op_pow pe_int pe_int) pe_int) (pa_cons pe_int pa_nil))))) (pv 1) (fun _ _ => rfl)) pa_nil))))
  (pss_cons (ps_if (pt_cmpR op_eq (pv 1) pe_int (nomark _)) (pss_one (ps_set (i := 2) sc_law_value.nd rfl (by first | exact Or.inl rfl | exact Or.inr rfl) (pe_op op_sub (pe_op op_pow pe_int pe_int) (pv 2)))) pss_nil)
  (pss_one (ps_ret (pe_ifExp (pt_cmpR op_eq (cl (Df.up D_law_draw (by omega)) hr gd (pa_cons (pv 0) (pa_cons pe_int pa_nil))) pe_int (nomark _)) (pv 2) (pe_op op_sub pe_int (pv 2)))))))), ?_⟩
  walk_at "rd"
  refine d_draw e sr (by decide) (by decide) (fun d G1 H1 s1 a1 a2 => ?_)
  walk_at "rd"
  refine d_mkL (by exact Nat.le_of_ble_eq_true rfl) (G := G1) (by walk_at "tr") (fun t G2 H2 s2 e2 h2 => ?_)
  walk_at "rd"
  obtain ⟨n, hn0, hn1, hat⟩ : ∃ n : Int, 0 < n ∧ n ≤ 10 ^ 60 + 1 ∧ atI [V.int 4, V.int 100, V.int (10 ^ (60 : Int).toNat + 1), V.int 3] d = some (.int n) := by
    have : d = 0 ∨ d = 1 ∨ d = 2 ∨ d = 3 := by omega
    rcases this with rfl | rfl | rfl | rfl
    · exact ⟨4, by decide, by decide, rfl⟩
    · exact ⟨100, by decide, by decide, rfl⟩
    · exact ⟨10 ^ 60 + 1, by decide, by decide, rfl⟩
    · exact ⟨3, by decide, by decide, rfl⟩
  refine d_ixL (by walk_at "tr") hat ?_
  walk_at "rd"
  refine d_draw (by walk_at "tr") (by walk_at "sr") hn0 (clog (by omega)) (fun m G3 H3 s3 b1 b2 => ?_)
  walk_at "rd"
  refine ite2 (fun c => ?_) (fun c => ?_)
  · walk_at "rd"
    refine d_draw (by walk_at "tr") (by walk_at "sr") (by decide) (by decide) (fun c4 G4 H4 s4 _ _ => ?_)
    walk_at "rd"
    refine ite2 (fun _ => ?_) (fun _ => ?_)
    · walk_at "rd"
      refine q _ G4 H4 (by walk_at "at") ?_
      show InL (10 ^ 60 - m)
      unfold InL LIM
      omega
    · walk_at "rd"
      refine q _ G4 H4 (by walk_at "at") ?_
      show InL (0 - (10 ^ 60 - m))
      unfold InL LIM
      omega
  · walk_at "rd"
    refine d_draw (by walk_at "tr") (by walk_at "sr") (by decide) (by decide) (fun c4 G4 H4 s4 _ _ => ?_)
    walk_at "rd"
    refine ite2 (fun _ => ?_) (fun _ => ?_)
    · walk_at "rd"
      refine q _ G4 H4 (by walk_at "at") ?_
      unfold InL LIM
      omega
    · walk_at "rd"
      refine q _ G4 H4 (by walk_at "at") ?_
      unfold InL LIM
      omega
theorem ok_expr (F : Fun K "_law_expression" "_law_expression" s_law_expression f fd) (T : Blt mg) {n : Nat} (D_law_draw : Df P w K mg base CX0 1 "_law_draw" ["_law_source_here", "_law_many"] spDraw) (D_law_value : Df P w K mg base CX0 2 "_law_value" ["_law_source_here"] spVal) (D_law_choose : Df P w K mg base CX0 2 "_law_choose" ["_law_source_here", "_law_items"] (spChoose K))
    (D_law_expression : Df P w K mg base CX0 (n + 3) "_law_expression" ["_law_source_here", "_law_names", "_law_levels"] (spTerm K n)) : FnG P w K mg base CX0 (n + 1 + 3) f fd ["_law_source_here", "_law_names", "_law_levels"] (spTerm K (n + 1)) := by
  refine okG F sc_law_expression (fun vs H Q E h => ?_) (fun cdv A outer s H vs Q E hr gd h => ?_)
  · obtain ⟨p, u, us, G, rfl, _⟩ := h
    rfl
  obtain ⟨p, u, us, G, rfl, e, sr, hs, hl, ho, h1, q⟩ := h
  refine ⟨_, (pss_cons (ps_set (i := 3) sc_law_expression.nd rfl (by first | exact Or.inl rfl | exact Or.inr rfl) (cl (Df.up D_law_draw (by omega)) hr gd (pa_cons (pv 0) (pa_cons pe_int pa_nil))))
  (pss_cons (ps_if (pw_or (pt_cmpR op_eq (pv 3) pe_int (nomark _)) (pw_or1 (pw_and (pt_cmpR op_lt (pv 3) pe_int (nomark _)) (pw_and1 (pt_cmpR (k_eqD K hr.units) (pv 1) (pe_lst pa_nil) (nomark _)))).pt)).pt (pss_one (ps_ret (cl (Df.up D_law_value (by omega)) hr gd (pa_cons (pv 0) pa_nil)))) pss_nil)
  (pss_cons (ps_if (pw_or (pt_cmpR op_lt (pv 3) pe_int (nomark _)) (pw_or1 (pt_cmpR op_lt (pv 2) pe_int (nomark _)))).pt (pss_one (ps_ret (pe_ifExp (pt_cmpR (k_neD K hr.units) (pv 1) (pe_lst pa_nil) (nomark _)) (cl (Df.up D_law_choose (by omega)) hr gd (pa_cons (pv 0) (pa_cons (pv 1) pa_nil))) (cl (Df.up D_law_value (by omega)) hr gd (pa_cons (pv 0) pa_nil))))) pss_nil)
  (pss_cons (ps_set (i := 4) sc_law_expression.nd rfl (by first | exact Or.inl rfl | exact Or.inr rfl) (pe_ix (k_ix_list K) (pe_lst (pa_cons pe_str (pa_cons pe_str (pa_cons pe_str (pa_cons pe_str (pa_cons pe_str (pa_cons pe_str (pa_cons pe_str pa_nil)))))))) (cl (Df.up D_law_draw (by omega)) hr gd (pa_cons (pv 0) (pa_cons pe_int pa_nil))) (fun _ _ => rfl)))
  (pss_cons (ps_set (i := 5) sc_law_expression.nd rfl (by first | exact Or.inl rfl | exact Or.inr rfl) (cl (Df.up D_law_expression (by omega)) hr gd (pa_cons (pv 0) (pa_cons (pv 1) (pa_cons (pe_op op_sub (pv 2) pe_int) pa_nil)))))
  (pss_one (ps_ret (pe_tup (pa_cons (pv 4) (pa_cons (pv 5) (pa_cons (cl (Df.up D_law_expression (by omega)) hr gd (pa_cons (pv 0) (pa_cons (pv 1) (pa_cons (pe_op op_sub (pv 2) pe_int) pa_nil)))) pa_nil))))))))))), ?_⟩
  walk_at "rd"
  have hk : ∀ x ∈ us, PyData.strOk x = true := fun x hx => name_ok (ho x hx)
  refine d_draw e sr (by decide) (by decide) (fun d G1 H1 s1 a1 a2 => ?_)
  have val : ∀ {Gi Hi : Hp}, Sr p G H Gi Hi → spVal [.ref p] Hi Q E0 := by
    intro Gi Hi si
    refine d_val si.e si.o (fun z G3 H3 s3 hz => ?_)
    exact q (.int z) (.int z) G3 H3 (si.trans s3) (.int z) (nested_int _ hz) trivial rfl
  walk_at "rd"
  refine ite2 (fun c => ?_) (fun c => ?_)
  · walk_at "rd"
    exact val s1
  have chz : ∀ {Gi Hi : Hp}, Sr p G H Gi Hi → ∀ σ : L2.St, σ = (L2.start N_law_expression [V.ref p, V.ref u, V.int ((n + 1 : Nat) : Int)]).set 3 (some (V.int d)) →
      tIf (tTest (tOp (rNeD K) (tVar 1) (tLst tNil))) (tCall (spChoose K) [] E0 (tCons (tVar 0) (tCons (tVar 1) tNil))) (tCall spVal [] E0 (tCons (tVar 0) tNil)) σ Hi Q := by
    intro Gi Hi si σ hσ
    subst hσ
    walk_at "rd"
    refine d_mkL (G := Gi) (by exact Nat.le_of_ble_eq_true rfl) (by walk_at "tr") (fun t G2 H2 s2 e2 h2 => ?_)
    walk_at "rd"
    refine d_neN (l := us) (by walk_at "tr") (by walk_at "tr") hk ?_
    walk_at "rd"
    refine ite2 (fun c => ?_) (fun c => ?_)
    · walk_at "rd"
      have c : us ≠ [] := by simpa using c
      have l0 : 0 < us.length := List.length_pos_iff.mpr c
      refine d_cho (xs := us.map V.str) (G := G2) (by walk_at "tr") (by walk_at "sr") (by walk_at "tr") (by rw [List.length_map]; exact l0) (by rw [List.length_map]; exact hl) (fun x G3 H3 s3 hx => ?_)
      obtain ⟨z, hz, rfl⟩ := List.mem_map.mp hx
      refine q (.str z) (.str z) G3 H3 (by walk_at "at") (.str z) (nested_str _ (ho z hz)) ?_ (decide_eq_true hz)
      have hzl := (Bool.and_eq_true .. ▸ (Bool.and_eq_true .. ▸ (show (decide (1 ≤ z.length) && decide (z.length ≤ 8) && letters z) = true from ho z hz)).1).2
      have := of_decide_eq_true hzl
      show z.length ≤ 100000
      omega
    · walk_at "rd"
      exact val (by walk_at "at")
  walk_at "rd"
  by_cases h3 : d < 3
  · rw [decide_eq_true h3]
    walk_at "rd"
    refine d_mkL (G := G1) (by exact Nat.le_of_ble_eq_true rfl) (by walk_at "tr") (fun t G2 H2 s2 e2 h2 => ?_)
    walk_at "rd"
    refine d_eqN (l := us) (by walk_at "tr") (by walk_at "tr") hk ?_
    walk_at "rd"
    refine ite2 (fun c => ?_) (fun c => ?_)
    · walk_at "rd"
      exact val (by walk_at "at")
    · walk_at "rd"
      rw [decide_eq_true h3]
      refine d_T rfl (d_T rfl (d_ret ?_))
      exact chz (Gi := G2) (by walk_at "at") _ rfl
  · rw [decide_eq_false h3]
    walk_at "rd"
    rw [decide_eq_false h3]
    walk_at "rd"
    by_cases hn : n = 0
    · subst hn
      refine d_T rfl (d_ret ?_)
      exact chz (Gi := G1) (by walk_at "at") _ rfl
    · rw [decide_eq_false (show ¬ ((n + 1 : Nat) : Int) < 2 by omega)]
      walk_at "rd"
      refine d_mkL (G := G1) (by exact Nat.le_of_ble_eq_true rfl) (by walk_at "tr") (fun t G2 H2 s2 e2 h2 => ?_)
      walk_at "rd"
      refine d_draw e2 (by walk_at "sr") (by decide) (by decide) (fun o G3 H3 s3 b1 b2 => ?_)
      walk_at "rd"
      have ol : o.toNat < OPS.length := by show _ < 7; omega
      have hw : atI [V.str "add", V.str "sub", V.str "mul", V.str "div", V.str "mod", V.str "less", V.str "same"] o = some (V.str OPS[o.toNat]) := by
        refine at_int b1 ?_
        rw [show [V.str "add", V.str "sub", V.str "mul", V.str "div", V.str "mod", V.str "less", V.str "same"] = OPS.map V.str from rfl, List.getElem?_map, List.getElem?_eq_getElem ol]; rfl
      refine d_ixL (by walk_at "tr") hw ?_
      walk_at "rd"
      refine d_term (us := us) (by omega) (G := G3) (by walk_at "tr") (by walk_at "sr") (by walk_at "tr") hl ho (by omega) (fun v1 d1 G4 H4 s4 r1 n1 f1 y1 => ?_)
      walk_at "rd"
      refine d_term (us := us) (by omega) (G := G4) (by walk_at "tr") (by walk_at "sr") (by walk_at "tr") hl ho (by omega) (fun v2 d2 G5 H5 s5 r2 n2 f2 y2 => ?_)
      walk_at "rd"
      rename_i t6 G6 H6 s6 e6 h6
      refine q (.ref t6) (.tuple [.str OPS[o.toNat], d1, d2]) G6 H6 (by walk_at "at") (.tup (st_of h6) (.cons (.str _) (.cons (by walk_at "tr") (.cons (by walk_at "tr") .nil)))) ?_ ?_ (by show (only us n d1 && only us n d2) = true; rw [y1, y2]; rfl)
      · rw [nested_tup]
        have hm : decide (OPS[o.toNat] ∈ OPS) = true := decide_eq_true (List.getElem_mem _)
        show (_ || (decide (OPS[o.toNat] ∈ OPS) && (nested n d1 && nested n d2))) = true
        rw [hm, n1, n2]; simp
      · have hl7 : ∀ x ∈ OPS, x.length ≤ 100000 := by decide
        exact ⟨hl7 _ (List.getElem_mem _), f1, f2, trivial⟩
end

abbrev s_evaluate : Stmt := topS 26
abbrev N_evaluate : List Str := ["expression", "variables"]
theorem sc_evaluate : FnScope N_evaluate ["expression", "variables"] (defScope s_evaluate) := ⟨rfl, rfl, rfl, by decide +kernel, rfl, by decide +kernel, by decide +kernel⟩
abbrev s_law_is_refused : Stmt := topS 41
abbrev N_law_is_refused : List Str := ["_law_term", "_law_known", "_law_told", "e", "_law_others"]
theorem sc_law_is_refused : FnScope N_law_is_refused ["_law_term", "_law_known"] (defScope s_law_is_refused) := ⟨rfl, rfl, rfl, by decide +kernel, rfl, by decide +kernel, by decide +kernel⟩
structure TxtE (K : PySem.W.Frag) (mg : Str → Option Value) (Ce Cl Cp Cs : Addr) : Prop extends Blt mg where
  z_ValueError : mg "ValueError" = none
  x_InvalidExpression : OwnX K mg "InvalidExpression" Ce
  xc : ExcC K Ce
  xs : PySem.W.exmOne K (.ref Ce) (.ref Ce) = some true
  c_InvalidLimit : ∃ u, mg "InvalidLimit" = some u ∧ RelV (.ref Cl) u
  c_InvalidProgram : ∃ u, mg "InvalidProgram" = some u ∧ RelV (.ref Cp) u
  c_SamepointError : ∃ u, mg "SamepointError" = some u ∧ RelV (.ref Cs) u
  nl : PySem.W.kitAny K (.ref Ce) [.ref Cl, .ref Cp] = some false
  ns : PySem.W.kitOne K (.ref Ce) (.ref Cs) = some true
  nv : PySem.W.kitOne K (.ref Ce) (.type "ValueError") = some true
def spEvalX (K : PySem.W.Frag) (C : Addr) : Sp := fun vs H Q E => ∃ v d G u, vs = [v, u] ∧ Ex G H ∧ Dq K G v d ∧ fitD d ∧ nested 6 d = false ∧ ∀ G' H', Ste NoM G H G' H' → Ex G' H' → E (.ref C) none H'
def spRef (K : PySem.W.Frag) : Sp := fun vs H Q E => ∃ v d G u, vs = [v, u] ∧ Ex G H ∧ Dq K G v d ∧ fitD d ∧ nested 6 d = false ∧ PQ G H (.bl true) Q
section
variable {P : Program} {w : World} {K : PySem.W.Frag} {mg : Str → Option Value} {base : Heap} {f Ce Cl Cp Cs : Addr} {fd : FuncData}
theorem ok_evaluate (F : Fun K "evaluate" "evaluate" s_evaluate f fd) (T : TxtE K mg Ce Cl Cp Cs) (D_is_expression : Df P w K mg base CX0 10 "is_expression" ["value"] (spT K (nested 6))) :
    FnG P w K mg base (L2.CX P w) 11 f fd ["expression", "variables"] (spEvalX K Ce) := by
  refine okGX F sc_evaluate (fun vs H Q E h => ?_) (fun cdv A outer s H vs Q E hr gd h => ?_)
  · obtain ⟨v, d, G, u, rfl, _⟩ := h
    rfl
  obtain ⟨v, d, G, u, rfl, e, hd, fit, hn, q⟩ := h
  refine ⟨_, (pss_cons (ps_if (pt_not (pt_val (cl (Df.up D_is_expression (by omega)) hr gd (pa_cons (pv 0) pa_nil)))) (pss_one (ps_raiseC T.x_InvalidExpression (takes_of rfl rfl rfl rfl))) pss_nil)
  (pss_one ps_dead)), ?_⟩
  walk_at "rd"
  rw [hn]
  walk_at "rd"
  exact q _ _ (by walk_at "st") (by walk_at "tr")
theorem ok_is_refused (F : Fun K "_law_is_refused" "_law_is_refused" s_law_is_refused f fd) (T : TxtE K mg Ce Cl Cp Cs) (D_evaluate : Df P w K mg base (L2.CX P w) 11 "evaluate" ["expression", "variables"] (spEvalX K Ce)) :
    FnG P w K mg base CX0 12 f fd ["_law_term", "_law_known"] (spRef K) := by
  refine okG F sc_law_is_refused (fun vs H Q E h => ?_) (fun cdv A outer s H vs Q E hr gd h => ?_)
  · obtain ⟨v, d, G, u, rfl, _⟩ := h
    rfl
  obtain ⟨v, d, G, u, rfl, e, hd, fit, hn, q⟩ := h
  refine ⟨_, (pss_cons (ps_set (i := 2) sc_law_is_refused.nd rfl (by first | exact Or.inl rfl | exact Or.inr rfl) pe_bl)
  (pss_cons (ps_tryA (i := 3) (c := .ref _) sc_law_is_refused.nd T.x_InvalidExpression.gP (fun W pn xe tk => (pss_one (ps_expr (clX (Df.up D_evaluate (by omega)) hr gd tk (pa_cons (pv 0) (pa_cons (pv 1) pa_nil))))))
  (fun a oe cls d pn hz hf => (pss_cons (ps_set (i := 4) sc_law_is_refused.nd rfl (by first | exact Or.inl rfl | exact Or.inr rfl) (pe_callB (c_isXT K hz hf) (by rfl) T.z_isinstance (by decide +kernel) (pa_cons (pv 3) (pa_cons (pe_tup (pa_cons (gcv T.c_InvalidLimit) (pa_cons (gcv T.c_InvalidProgram) pa_nil))) pa_nil))))
  (pss_one (ps_set (i := 2) sc_law_is_refused.nd rfl (by first | exact Or.inl rfl | exact Or.inr rfl) (pe_and (pe_callB (c_isX K hz hf) (by rfl) T.z_isinstance (by decide +kernel) (pa_cons (pv 3) (pa_cons (gcv T.c_SamepointError) pa_nil))) (pe_and (pe_callB (c_isX K hz hf) (by rfl) T.z_isinstance (by decide +kernel) (pa_cons (pv 3) (pa_cons (tyv "ValueError" T.z_ValueError (by decide +kernel)) pa_nil))) (pe_one (pe_not (pv 4))))))))))
  (pss_one (ps_ret (pv 2))))), ?_⟩
  walk_at "rd"
  refine ⟨v, d, G, u, rfl, e, hd, fit, hn, fun G1 H1 s1 e1 => ?_⟩
  refine d_caught T.xs (fun a na => ?_)
  walk_at "rd"
  refine d_isXT2 T.xc (by walk_at "tr") T.nl ?_
  walk_at "rd"
  refine d_isX T.xc T.ns ?_
  walk_at "rd"
  refine d_isXty T.xc T.nv ?_
  walk_at "rd"
  exact pq_fin q (by walk_at "st") rfl
end

abbrev s_law_is_integer : Stmt := topS 35
abbrev N_law_is_integer : List Str := ["_law_item", "_law_low", "_law_high"]
theorem sc_law_is_integer : FnScope N_law_is_integer ["_law_item", "_law_low", "_law_high"] (defScope s_law_is_integer) := ⟨rfl, rfl, rfl, by decide +kernel, rfl, by decide +kernel, by decide +kernel⟩
abbrev s_law_is_word : Stmt := topS 36
abbrev N_law_is_word : List Str := ["_law_item", "_law_letter"]
theorem sc_law_is_word : FnScope N_law_is_word ["_law_item"] (defScope s_law_is_word) := ⟨rfl, rfl, rfl, by decide +kernel, rfl, by decide +kernel, by decide +kernel⟩
abbrev s_law_is_term : Stmt := topS 37
abbrev N_law_is_term : List Str := ["_law_item", "_law_levels"]
theorem sc_law_is_term : FnScope N_law_is_term ["_law_item", "_law_levels"] (defScope s_law_is_term) := ⟨rfl, rfl, rfl, by decide +kernel, rfl, by decide +kernel, by decide +kernel⟩
mutual
/-- texts are short and of true signs -/
def gdD : PyData → Prop
  | .str x => x.length ≤ 100000 ∧ PyData.strOk x = true
  | .list xs => gdA xs
  | .tuple xs => gdA xs
  | _ => True
def gdA : List PyData → Prop
  | [] => True
  | x :: xs => gdD x ∧ gdA xs
end
mutual
theorem gd_fit : ∀ d : PyData, gdD d → fitD d
  | .str x, h => h.1
  | .list xs, h => gd_fitA xs h
  | .tuple xs, h => gd_fitA xs h
  | .int _, _ => trivial
  | .bool _, _ => trivial
  | .none, _ => trivial
  | .dict _, _ => trivial
theorem gd_fitA : ∀ ds : List PyData, gdA ds → fitA ds
  | [], _ => trivial
  | x :: xs, h => ⟨gd_fit x h.1, gd_fitA xs h.2⟩
end
def inR (lo hi : Int) : PyData → Bool
  | .int i => decide (lo ≤ i) && decide (i ≤ hi)
  | _ => false
def spInt (K : PySem.W.Frag) : Sp := fun vs H Q _ => ∃ v d G lo hi, vs = [v, .int lo, .int hi] ∧ Ex G H ∧ Dq K G v d ∧ PQ G H (.bl (inR lo hi d)) Q
theorem d_spInt {K : PySem.W.Frag} {v : V} {d : PyData} {lo hi : Int} {G H : Hp} {Q : VK} {E : XK} (e : Ex G H) (h : Dq K G v d) (q : ∀ G' H', Ste NoM G H G' H' → Ex G' H' → Q (.bl (inR lo hi d)) H') : spInt K [v, .int lo, .int hi] H Q E := ⟨v, d, G, lo, hi, rfl, e, h, q⟩
def spWd (K : PySem.W.Frag) : Sp := fun vs H Q _ => ∃ v d G, vs = [v] ∧ Ex G H ∧ Dq K G v d ∧ gdD d ∧ PQ G H (.bl (isNm d)) Q
theorem d_spWd {K : PySem.W.Frag} {v : V} {d : PyData} {G H : Hp} {Q : VK} {E : XK} (e : Ex G H) (h : Dq K G v d) (l : gdD d) (q : ∀ G' H', Ste NoM G H G' H' → Ex G' H' → Q (.bl (isNm d)) H') : spWd K [v] H Q E := ⟨v, d, G, rfl, e, h, l, q⟩
def spTm (K : PySem.W.Frag) (n : Nat) : Sp := fun vs H Q _ => ∃ v d G, vs = [v, .int (n : Int)] ∧ 1 ≤ n ∧ Ex G H ∧ Dq K G v d ∧ gdD d ∧ PQ G H (.bl (nested n d)) Q
theorem d_tm {K : PySem.W.Frag} {n : Nat} {i : Int} {v : V} {d : PyData} {G H : Hp} {Q : VK} {E : XK} (hi : i = (n : Int)) (h1 : 1 ≤ n) (e : Ex G H) (h : Dq K G v d) (l : gdD d) (q : ∀ G' H', Ste NoM G H G' H' → Ex G' H' → Q (.bl (nested n d)) H') : spTm K n [v, .int i] H Q E :=
  ⟨v, d, G, by rw [hi], h1, e, h, l, q⟩
theorem inR_val (d : PyData) : inR (0 - 10 ^ Int.toNat 60) (10 ^ Int.toNat 60) d = isVal d := by
  cases d with
  | int i => rfl
  | _ => rfl
theorem flt_yes {α : Type} {p : α → Bool} {c : α} (h : p c = true) : [c].filter p = [c] := by rw [List.filter_cons_of_pos h]; rfl
theorem flt_no {α : Type} {p : α → Bool} {c : α} (h : ¬ p c = true) : [c].filter p = [] := by rw [List.filter_cons_of_neg h]; rfl
theorem all_empty : ∀ l : List Nat, (l.all fun c => decide (c ∈ LETS.cps.toList)) = ((l.filter fun c => !decide (c ∈ LETS.cps.toList)).map fun c => (⟨#[c]⟩ : Str)).isEmpty
  | [] => rfl
  | c :: l => by
    by_cases hc : c ∈ LETS.cps.toList
    · rw [List.all_cons, decide_eq_true hc, Bool.true_and, List.filter_cons_of_neg (by simp [hc])]; exact all_empty l
    · rw [List.all_cons, decide_eq_false hc, Bool.false_and, List.filter_cons_of_pos (by simp [hc])]; rfl
section
variable {P : Program} {w : World} {K : PySem.W.Frag} {mg : Str → Option Value} {base : Heap} {f : Addr} {fd : FuncData}
theorem ok_law_integer (F : Fun K "_law_is_integer" "_law_is_integer" s_law_is_integer f fd) (T : Blt mg) : FnG P w K mg base CX0 1 f fd ["_law_item", "_law_low", "_law_high"] (spInt K) := by
  refine okG F sc_law_is_integer (fun vs H Q E h => ?_) (fun cdv A outer s H vs Q E hr gd h => ?_)
  · obtain ⟨v, d, G, lo, hi, rfl, _⟩ := h
    rfl
  obtain ⟨v, d, G, lo, hi, rfl, e, hd, q⟩ := h
  refine ⟨_, (pss_one (ps_ret (pe_and (pe_callB (k_isi K) (by rfl) T.z_isinstance (by decide +kernel) (pa_cons (pv 0) (pa_cons (tyv "int" T.z_int (by decide +kernel)) pa_nil))) (pe_and (pe_not (pe_callB (k_isi K) (by rfl) T.z_isinstance (by decide +kernel) (pa_cons (pv 0) (pa_cons (tyv "bool" T.z_bool (by decide +kernel)) pa_nil)))) (pe_one (pe_chain op_le op_le (pv 1) (pv 0) (pv 2))))))), ?_⟩
  walk_at "rd"
  cases d with
  | int i =>
    cases hd
    walk_at "rd"
    refine ite2 (fun c => ?_) (fun c => ?_)
    · walk_at "rd"
      exact pq_fin q (by walk_at "st") (by simp only [inR, c, Bool.true_and])
    · walk_at "rd"
      exact pq_fin q (by walk_at "st") (by simp only [inR, Bool.not_eq_true] at *; simp only [c, Bool.false_and])
  | _ => walk_at "rd"; exact pq_fin q (by walk_at "st") rfl
theorem ok_law_word (F : Fun K "_law_is_word" "_law_is_word" s_law_is_word f fd) (T : Blt mg) : FnG P w K mg base CX0 1 f fd ["_law_item"] (spWd K) := by
  refine okG F sc_law_is_word (fun vs H Q E h => ?_) (fun cdv A outer s H vs Q E hr gd h => ?_)
  · obtain ⟨v, d, G, rfl, _⟩ := h
    rfl
  obtain ⟨v, d, G, rfl, e, hd, fit, q⟩ := h
  refine ⟨_, (pss_cons (ps_if (pw_or (pt_not (pt_val (pe_callB (k_isi K) (by rfl) T.z_isinstance (by decide +kernel) (pa_cons (pv 0) (pa_cons (tyv "str" T.z_str (by decide +kernel)) pa_nil))))) (pw_or1 (pt_not (pt_chain op_le op_le pe_int (pe_callB (k_len K) (by rfl) T.z_len (by decide +kernel) (pa_cons (pv 0) pa_nil)) pe_int)))).pt (pss_one (ps_ret pe_bl)) pss_nil)
  (pss_one (ps_ret (pe_cmpR (k_eqD K hr.units) (pe_lc (own := [("_law_letter", 1)]) (by rfl) sc_law_is_word.nd (pi_str (pv 0)) (blkOk_by (own := [("_law_letter", 1)]) (N := N_law_is_word) (sc := defScope s_law_is_word) (by decide +kernel)) (fun _ _ _ _ _ => (pg_name (i := 1) sc_law_is_word.nd rfl (by first | exact Or.inl rfl | exact Or.inr rfl))) (fun _ _ _ _ _ => (pts_one (pt_cmpR o_niSg (pv 1) pe_str (by rfl)))) (fun _ _ _ _ _ => (pv 1))) (pe_lst pa_nil) (nomark _))))), ?_⟩
  walk_at "rd"
  cases d with
  | str x =>
    have fx : x.length ≤ 100000 := fit.1
    cases hd
    walk_at "rd"
    refine ite2 (fun c => ?_) (fun c => ?_)
    · walk_at "rd"
      refine ite2 (fun c2 => ?_) (fun c2 => ?_)
      · walk_at "rd"
        exact pq_fin q (by walk_at "st") (by simp only [isNm, Bool.not_eq_true', decide_eq_false_iff_not, decide_eq_true_eq] at *; rw [decide_eq_false (show ¬ x.length ≤ 8 by omega)]; simp)
      · have l8 : x.length ≤ 8 := by have z := c2; simp only [Bool.not_eq_true, Bool.not_eq_false', decide_eq_true_eq] at z; omega
        have l1 : 1 ≤ x.length := by simp only [decide_eq_true_eq] at c; omega
        walk_at "rd"
        refine lcS Own.nil walk_str (G := G) e trivial (show x.cps.size < 100000 from Nat.lt_of_le_of_lt l8 (by decide)) (fun _ _ _ => trivial)
          (fun i acc _ => acc = (((x.cps.toList.take i).filter fun c => !decide (c ∈ LETS.cps.toList)).map fun c => (⟨#[c]⟩ : Str)).map V.str) rfl ?_ (fun _ _ _ _ r => r) ?_ ?_
        · rintro i acc _ rfl
          rw [List.length_map, List.length_map]
          exact Nat.le_trans (List.length_filter_le _ _) (by rw [List.length_take]; omega)
        · rintro i y acc G1 H1 H1' hi a rfl ⟨rfl, cc, hc, rfl⟩ P P' hP hP'
          have ht : x.cps.toList.take (i + 1) = x.cps.toList.take i ++ [cc] := by rw [List.take_add_one, Array.getElem?_toList, hc]; rfl
          walk_at "rd"
          refine ite2 (fun c => ?_) (fun c => ?_)
          · walk_at "rd"
            refine hP _ G1 _ (At.refl a.e trivial) ?_
            rw [ht, List.filter_append, List.map_append, List.map_append]
            rw [show [cc].filter (fun c => !decide (c ∈ LETS.cps.toList)) = [cc] from flt_yes c]
            rfl
          · refine hP' G1 _ (At.refl a.e trivial) ?_
            rw [ht, List.filter_append, List.map_append, List.map_append]
            rw [show [cc].filter (fun c => !decide (c ∈ LETS.cps.toList)) = [] from flt_no c]
            exact (List.append_nil _).symm
        · rintro D acc G' H' a hD rfl
          have sok : ∀ z ∈ ((x.cps.toList.take x.cps.size).filter fun c => !decide (c ∈ LETS.cps.toList)).map fun c => (⟨#[c]⟩ : Str), PyData.strOk z = true := by
            intro z hz
            obtain ⟨cc, hc, rfl⟩ := List.mem_map.mp hz
            have h1 : cc ∈ x.cps.toList := List.mem_of_mem_take (List.mem_filter.mp hc).1
            have h2 := fit.2
            unfold PyData.strOk at h2 ⊢
            rw [← Array.all_toList, List.all_eq_true] at h2
            rw [← Array.all_toList]
            simpa using h2 cc h1
          walk_at "rd"
          refine d_mkL (G := G') (by exact Nat.le_of_ble_eq_true rfl) a.e (fun t G2 H2 s2 e2 h2 => ?_)
          walk_at "rd"
          refine d_eqN (sl_of (e2 _ _ (s2.g _ _ hD))) (sl_of (e2 _ _ h2)) sok ?_
          refine pq_fin q (a.s.trans s2) ?_
          have sz : x.cps.toList.take x.cps.size = x.cps.toList := List.take_of_length_le (by simp)
          rw [sz]
          simp only [isNm, letters]
          rw [decide_eq_true l1, decide_eq_true l8, Bool.true_and, Bool.true_and]
          exact congrArg V.bl (all_empty _)
    · walk_at "rd"
      exact pq_fin q (by walk_at "st") (by simp only [isNm, decide_eq_true_eq] at *; rw [decide_eq_false (show ¬ 1 ≤ x.length by omega)]; simp)
  | _ => walk_at "rd"; exact pq_fin q (by walk_at "st") rfl
theorem ok_law_term (F : Fun K "_law_is_term" "_law_is_term" s_law_is_term f fd) (T : Blt mg) {n : Nat} (D_law_is_integer : Df P w K mg base CX0 1 "_law_is_integer" ["_law_item", "_law_low", "_law_high"] (spInt K)) (D_law_is_word : Df P w K mg base CX0 1 "_law_is_word" ["_law_item"] (spWd K))
    (D_law_is_term : Df P w K mg base CX0 (n + 2) "_law_is_term" ["_law_item", "_law_levels"] (spTm K n)) : FnG P w K mg base CX0 (n + 1 + 2) f fd ["_law_item", "_law_levels"] (spTm K (n + 1)) := by
  refine okG F sc_law_is_term (fun vs H Q E h => ?_) (fun cdv A outer s H vs Q E hr gd h => ?_)
  · obtain ⟨v, d, G, rfl, _⟩ := h
    rfl
  obtain ⟨v, d, G, rfl, _, e, hd, fit, q⟩ := h
  refine ⟨_, (pss_cons (ps_if (pw_or (pt_val (cl (Df.up D_law_is_integer (by omega)) hr gd (pa_cons (pv 0) (pa_cons (pe_op op_sub pe_int (pe_op op_pow pe_int pe_int)) (pa_cons (pe_op op_pow pe_int pe_int) pa_nil))))) (pw_or1 (pt_val (cl (Df.up D_law_is_word (by omega)) hr gd (pa_cons (pv 0) pa_nil))))).pt (pss_one (ps_ret (pe_cmpR op_gt (pv 1) pe_int (nomark _)))) pss_nil)
  (pss_cons (ps_if (pw_or (pt_cmpR op_lt (pv 1) pe_int (nomark _)) (pw_or (pt_not (pt_val (pe_callB (k_isi K) (by rfl) T.z_isinstance (by decide +kernel) (pa_cons (pv 0) (pa_cons (tyv "tuple" T.z_tuple (by decide +kernel)) pa_nil))))) (pw_or (pt_cmpR op_ne (pe_callB (k_len K) (by rfl) T.z_len (by decide +kernel) (pa_cons (pv 0) pa_nil)) pe_int (nomark _)) (pw_or1 (pt_not (pt_val (pe_callB (k_isi K) (by rfl) T.z_isinstance (by decide +kernel) (pa_cons (pe_ix (k_ix_tup K) (pv 0) pe_int (fun _ _ => rfl)) (pa_cons (tyv "str" T.z_str (by decide +kernel)) pa_nil))))))))).pt (pss_one (ps_ret pe_bl)) pss_nil)
  (pss_cons (ps_if (pt_cmpR (k_notIn_seq K) (pe_ix (k_ix_tup K) (pv 0) pe_int (fun _ _ => rfl)) (pe_tup (pa_cons pe_str (pa_cons pe_str (pa_cons pe_str (pa_cons pe_str (pa_cons pe_str (pa_cons pe_str (pa_cons pe_str pa_nil)))))))) (by rfl)) (pss_one (ps_ret pe_bl)) pss_nil)
  (pss_one (ps_ret (pe_and (cl (Df.up D_law_is_term (by omega)) hr gd (pa_cons (pe_ix (k_ix_tup K) (pv 0) pe_int (fun _ _ => rfl)) (pa_cons (pe_op op_sub (pv 1) pe_int) pa_nil))) (pe_one (cl (Df.up D_law_is_term (by omega)) hr gd (pa_cons (pe_ix (k_ix_tup K) (pv 0) pe_int (fun _ _ => rfl)) (pa_cons (pe_op op_sub (pv 1) pe_int) pa_nil)))))))))), ?_⟩
  walk_at "rd"
  refine d_spInt (d := d) e hd (fun G1 H1 s1 e1 => ?_)
  rw [inR_val]
  walk_at "rd"
  have lev : decide ((0 : Int) < ((n + 1 : Nat) : Int)) = true := decide_eq_true (by omega)
  refine ite2 (fun c => ?_) (fun c => ?_)
  · walk_at "rd"
    exact pq_fin q (by walk_at "st") (by rw [lev]; simp only [nested, c, Bool.true_or])
  walk_at "rd"
  refine d_spWd (d := d) (G := G1) (by walk_at "tr") (by walk_at "tr") fit (fun G2 H2 s2 e2 => ?_)
  walk_at "rd"
  refine ite2 (fun c2 => ?_) (fun c2 => ?_)
  · walk_at "rd"
    exact pq_fin q (by walk_at "st") (by rw [lev]; simp only [nested, c2, Bool.true_or, Bool.or_true])
  have c' : isVal d = false := Bool.eq_false_iff.mpr c
  have c2' : isNm d = false := Bool.eq_false_iff.mpr c2
  walk_at "rd"
  by_cases cn : n = 0
  · subst cn
    walk_at "rd"
    refine pq_fin q (by walk_at "st") ?_
    cases d with
    | tuple ds =>
      rw [nested_tup, c', c2', Bool.or_self, Bool.false_or]
      by_cases c3 : ds.length = 3
      · match ds, c3 with
        | [d0, d1, d2], _ =>
          show V.bl (op3 d0 (false && false)) = _
          cases d0 <;> simp [op3]
      · exact congrArg V.bl (tri_no c3)
    | _ => simp only [nested, c', c2', Bool.or_self]
  rw [decide_eq_false (show ¬ ((n + 1 : Nat) : Int) < 2 by omega)]
  walk_at "rd"
  cases d with
  | tuple ds =>
    cases hd with
    | tup hS hA =>
      rename_i a xs
      walk_at "rd"
      by_cases c3 : xs.length = 3
      · obtain ⟨x0, x1, x2, d0, d1, d2, rfl, rfl, h0, h1, h2⟩ := dq_three hA c3
        have f0 : gdD d0 := fit.1
        have f1 : gdD d1 := fit.2.1
        have f2 : gdD d2 := fit.2.2.1
        clear c3
        walk_at "rd"
        cases d0 with
        | str z =>
          cases h0
          walk_at "rd"
          rename_i t G3 H3 s3 e3 h3
          refine d_inT (xs := OPS.map V.str) (st_of (e3 _ _ h3)) rfl (flat_strs _) ?_
          rw [if_pos rfl, inV_str]
          walk_at "rd"
          by_cases cz : z ∈ OPS
          · rw [decide_eq_true cz]
            walk_at "rd"
            refine d_tm (by omega) (by omega) (d := d1) (G := G3) (by walk_at "tr") (by walk_at "tr") f1 (fun G4 H4 s4 e4 => ?_)
            walk_at "rd"
            have fin : ∀ b, (nested n d1 && nested n d2) = b → V.bl (nested (n + 1) (.tuple [.str z, d1, d2])) = V.bl b := fun b hb => by
              rw [nested_tup, c', c2', Bool.or_self, Bool.false_or]
              show V.bl (decide (z ∈ OPS) && (nested n d1 && nested n d2)) = _
              rw [decide_eq_true cz, hb, Bool.true_and]
            refine ite2 (fun c4 => ?_) (fun c4 => ?_)
            · walk_at "rd"
              refine d_tm (by omega) (by omega) (d := d2) (G := G4) (by walk_at "tr") (by walk_at "tr") f2 (fun G5 H5 s5 e5 => ?_)
              exact pq_fin q (by walk_at "st") (fin _ (by rw [c4, Bool.true_and]))
            · exact pq_fin q (by walk_at "st") (fin _ (by rw [Bool.eq_false_iff.mpr c4, Bool.false_and]))
          · rw [decide_eq_false cz]
            walk_at "rd"
            exact pq_fin q (by walk_at "st") (by
              rw [nested_tup, c', c2', Bool.or_self, Bool.false_or]
              show V.bl (decide (z ∈ OPS) && _) = _
              rw [decide_eq_false cz, Bool.false_and])
        | _ => walk_at "rd"; exact pq_fin q (by walk_at "st") (by rw [nested_tup, c', c2', Bool.or_self, Bool.false_or]; rfl)
      · have e3 : decide (V.int ((xs.length : Nat) : Int) = V.int 3) = false := decide_eq_false fun z => c3 (by have := V.int.inj z; omega)
        rw [e3]
        walk_at "rd"
        exact pq_fin q (by walk_at "st") (by
          rw [nested_tup, c', c2', Bool.or_self, Bool.false_or]
          exact congrArg V.bl (tri_no fun h => c3 (hA.len.trans h)))
  | _ => walk_at "rd"; exact pq_fin q (by walk_at "st") (by simp only [nested, c', c2', Bool.or_self])
end

abbrev s_law_odd : Stmt := topS 38
abbrev N_law_odd : List Str := ["_law_source_here", "_law_far", "_law_some"]
theorem sc_law_odd : FnScope N_law_odd ["_law_source_here"] (defScope s_law_odd) := ⟨rfl, rfl, rfl, by decide +kernel, rfl, by decide +kernel, by decide +kernel⟩
abbrev s_law_spoiled : Stmt := topS 39
abbrev N_law_spoiled : List Str := ["_law_source_here", "_law_term"]
theorem sc_law_spoiled : FnScope N_law_spoiled ["_law_source_here", "_law_term"] (defScope s_law_spoiled) := ⟨rfl, rfl, rfl, by decide +kernel, rfl, by decide +kernel, by decide +kernel⟩
abbrev s_law_deeper : Stmt := topS 40
abbrev N_law_deeper : List Str := ["_law_source_here", "_law_term", "_law_turn", "_law_word", "_law_other"]
theorem sc_law_deeper : FnScope N_law_deeper ["_law_source_here", "_law_term"] (defScope s_law_deeper) := ⟨rfl, rfl, rfl, by decide +kernel, rfl, by decide +kernel, by decide +kernel⟩
/-! ### good data, whatever they are -/
def Gd (K : PySem.W.Frag) (G : Hp) (v : V) : Prop := ∃ d, Dq K G v d ∧ gdD d
def GdA (K : PySem.W.Frag) (G : Hp) (vs : List V) : Prop := ∃ ds, DqAll K G vs ds ∧ gdA ds
section
variable {K : PySem.W.Frag} {G H : Hp} {a : Addr} {xs : List V} {v : V}
theorem gd_non : Gd K G .non := ⟨_, .non, trivial⟩
theorem gd_bl {b : Bool} : Gd K G (.bl b) := ⟨_, .bl b, trivial⟩
theorem gd_int {i : Int} : Gd K G (.int i) := ⟨_, .int i, trivial⟩
theorem gd_str {x : Str} (h : x.length ≤ 100000 ∧ PyData.strOk x = true) : Gd K G (.str x) := ⟨_, .str x, h⟩
theorem gd_tup (h : SqT K G a xs) (q : GdA K G xs) : Gd K G (.ref a) := by obtain ⟨ds, h2, g⟩ := q; exact ⟨.tuple ds, .tup h h2, g⟩
theorem gd_lst (h : SqL K G a xs) (q : GdA K G xs) : Gd K G (.ref a) := by obtain ⟨ds, h2, g⟩ := q; exact ⟨.list ds, .lst h h2, g⟩
theorem gd_dct (h : G a = some (.dK [])) : Gd K G (.ref a) := ⟨.dict _, .dct (ks := []) (xs := []) (ds := []) rfl (.inl h) .nil, trivial⟩
theorem gdA_nil : GdA K G [] := ⟨[], .nil, trivial⟩
theorem gdA_cons (h : Gd K G v) (q : GdA K G xs) : GdA K G (v :: xs) := by
  obtain ⟨d, h1, g1⟩ := h
  obtain ⟨ds, h2, g2⟩ := q
  exact ⟨d :: ds, .cons h1 h2, g1, g2⟩
theorem ex_gd (e : Ex G H) (h : Gd K G v) : Gd K H v := by obtain ⟨d, h1, g⟩ := h; exact ⟨d, ex_dq e h1, g⟩
theorem gdA_mem : ∀ {xs : List V}, GdA K G xs → ∀ x ∈ xs, Gd K G x
  | [], _, x, h => by cases h
  | y :: ys, ⟨ds, h, g⟩, x, hx => by
    cases h with
    | cons h1 h2 =>
      rcases List.mem_cons.mp hx with rfl | hx
      · exact ⟨_, h1, g.1⟩
      · exact gdA_mem ⟨_, h2, g.2⟩ x hx
end
theorem nested_gd : ∀ {n : Nat} {d : PyData}, nested n d = true → gdD d
  | 0, _, h => by cases h
  | n + 1, .str x, h => by
    have h : isNm (.str x) = true := by simpa [nested, isVal] using h
    have h1 : (decide (1 ≤ x.length) && decide (x.length ≤ 8) && letters x) = true := h
    simp only [Bool.and_eq_true, decide_eq_true_eq] at h1
    exact ⟨by omega, name_ok h⟩
  | n + 1, .tuple ds, h => by
    obtain ⟨o, l, r, rfl, ho, hl, hr⟩ := nested_op h
    have hall : ∀ x ∈ OPS, x.length ≤ 100000 ∧ PyData.strOk x = true := by decide +kernel
    exact ⟨hall o ho, nested_gd hl, nested_gd hr, trivial⟩
  | n + 1, .int _, _ => trivial
  | n + 1, .none, _ => trivial
  | n + 1, .bool _, _ => trivial
  | n + 1, .list ds, h => by simp [nested, isVal, isNm] at h
  | n + 1, .dict _, _ => trivial
local macro_rules | `(tactic| walk_at "gd") => `(tactic| first
  | exact gd_non
  | exact gd_bl
  | exact gd_int
  | exact gd_str (by decide +kernel)
  | exact gdA_nil
  | ((refine gdA_cons ?gh ?gt); (case gh => walk_at "gd"); (case gt => walk_at "gd"))
  | ((refine gd_tup (xs := ?gx) ?gh ?gq); (case gh => walk_at "tr"); (case gq => walk_at "gd"))
  | ((refine gd_lst (xs := ?gx) ?gh ?gq); (case gh => walk_at "tr"); (case gq => walk_at "gd"))
  | ((refine gd_dct ?gh); (case gh => walk_at "tr")))
local macro_rules | `(tactic| walk_at "rdl1") => `(tactic| first
  | walk_at "rd1"
  | ((with_reducible refine d_mkL (G := ?G) ?h ?e (fun _ _ _ _ _ _ => ?_)); (case h => exact Nat.le_of_ble_eq_true rfl); (case e => walk_at "tr"))
  | ((with_reducible refine d_dnewT (G := ?G) ?e (fun _ _ _ _ _ _ => ?_)); (case e => walk_at "tr"))
  | ((with_reducible refine d_cat (G := ?G) (xs := ?xs) (ys := ?ys) ?h1 ?h2 ?hz ?e (fun _ _ _ _ _ _ => ?_)); (case h1 => walk_at "tr"); (case h2 => walk_at "tr"); (case hz => exact Nat.le_of_ble_eq_true rfl); (case e => walk_at "tr")))
local macro_rules | `(tactic| walk_at "rdl") => `(tactic| repeat walk_at "rdl1")
def spOdd (K : PySem.W.Frag) : Sp := fun vs H Q _ => ∃ p G, vs = [.ref p] ∧ Ex G H ∧ Src p G H ∧ ∀ v G' H', Sr p G H G' H' → Gd K G' v → Q v H'
def spSpo (K : PySem.W.Frag) (n : Nat) : Sp := fun vs H Q _ => ∃ p v d G, vs = [.ref p, v] ∧ Ex G H ∧ Src p G H ∧ Dq K G v d ∧ nested n d = true ∧ ∀ v' G' H', Sr p G H G' H' → Gd K G' v' → Q v' H'
def spDeep (K : PySem.W.Frag) : Sp := fun vs H Q _ => ∃ p v d G, vs = [.ref p, v] ∧ Ex G H ∧ Src p G H ∧ Dq K G v d ∧ nested 4 d = true ∧ ∀ v' d' G' H', Sr p G H G' H' → Dq K G' v' d' → nested 9 d' = true → Q v' H'
theorem d_spo {K : PySem.W.Frag} {n : Nat} {p : Addr} {v : V} {d : PyData} {G H : Hp} {Q : VK} {E : XK} (e : Ex G H) (s : Src p G H) (h : Dq K G v d) (hn : nested n d = true) (q : ∀ v' G' H', Sr p G H G' H' → Gd K G' v' → Q v' H') : spSpo K n [.ref p, v] H Q E := ⟨p, v, d, G, rfl, e, s, h, hn, q⟩
section
variable {P : Program} {w : World} {K : PySem.W.Frag} {mg : Str → Option Value} {base : Heap} {f : Addr} {fd : FuncData}
theorem ok_odd (F : Fun K "_law_odd" "_law_odd" s_law_odd f fd) (T : Blt mg) (D_law_choose : Df P w K mg base CX0 2 "_law_choose" ["_law_source_here", "_law_items"] (spChoose K)) : FnG P w K mg base CX0 3 f fd ["_law_source_here"] (spOdd K) := by
  refine okG F sc_law_odd (fun vs H Q E h => ?_) (fun cdv A outer s H vs Q E hr gd h => ?_)
  · obtain ⟨p, G, rfl, _⟩ := h
    rfl
  obtain ⟨p, G, rfl, e, sr, q⟩ := h
  refine ⟨_, (pss_cons (ps_set (i := 1) sc_law_odd.nd rfl (by first | exact Or.inl rfl | exact Or.inr rfl) (pe_op op_add (pe_op op_pow pe_int pe_int) pe_int))
  (pss_cons (ps_set (i := 2) sc_law_odd.nd rfl (by first | exact Or.inl rfl | exact Or.inr rfl) (pe_lst (pa_cons pe_non (pa_cons pe_bl (pa_cons pe_bl (pa_cons pe_str (pa_cons pe_str (pa_cons pe_str (pa_cons pe_str (pa_cons pe_str (pa_cons (pv 1) (pa_cons (pe_op op_sub pe_int (pv 1)) (pa_cons (pe_lst pa_nil) (pa_cons (pe_tup pa_nil) (pa_cons pe_dnewK (pa_cons (pe_tup (pa_cons pe_str pa_nil)) (pa_cons (pe_tup (pa_cons pe_str (pa_cons pe_int pa_nil))) pa_nil)))))))))))))))))
  (pss_cons (ps_set (i := 2) sc_law_odd.nd rfl (by first | exact Or.inl rfl | exact Or.inr rfl) (pe_op op_cat (pv 2) (pe_lst (pa_cons (pe_tup (pa_cons pe_str (pa_cons pe_int (pa_cons pe_int (pa_cons pe_int pa_nil))))) (pa_cons (pe_tup (pa_cons pe_str (pa_cons pe_int (pa_cons pe_int pa_nil)))) (pa_cons (pe_tup (pa_cons pe_bl (pa_cons pe_int (pa_cons pe_int pa_nil)))) (pa_cons (pe_lst (pa_cons pe_str (pa_cons pe_int (pa_cons pe_int pa_nil)))) (pa_cons (pe_tup (pa_cons pe_str (pa_cons (pe_lst pa_nil) (pa_cons pe_int pa_nil)))) (pa_cons (pe_tup (pa_cons pe_non (pa_cons pe_str (pa_cons pe_str pa_nil)))) pa_nil)))))))))
  (pss_one (ps_ret (cl (Df.up D_law_choose (by omega)) hr gd (pa_cons (pv 0) (pa_cons (pv 2) pa_nil)))))))), ?_⟩
  walk_at "rdl"
  refine d_cho (xs := ?xs) (G := ?G2) ?e ?s ?h ?l0 ?l1 ?q
  case e => walk_at "tr"
  case s => walk_at "sr"
  case h => walk_at "tr"
  case l0 => exact Nat.le_of_ble_eq_true rfl
  case l1 => exact Nat.le_of_ble_eq_true rfl
  intro x G3 H3 s3 hx
  have s4 : Sr p G H G3 H3 := by walk_at "at"
  refine q x G3 H3 s4 (ex_gd s3.s.g (gdA_mem ?_ x hx))
  walk_at "gd"
theorem ok_spoiled (F : Fun K "_law_spoiled" "_law_spoiled" s_law_spoiled f fd) (T : Blt mg) {n : Nat} (D_law_draw : Df P w K mg base CX0 1 "_law_draw" ["_law_source_here", "_law_many"] spDraw) (D_law_odd : Df P w K mg base CX0 3 "_law_odd" ["_law_source_here"] (spOdd K))
    (D_law_spoiled : Df P w K mg base CX0 (n + 4) "_law_spoiled" ["_law_source_here", "_law_term"] (spSpo K n)) : FnG P w K mg base CX0 (n + 1 + 4) f fd ["_law_source_here", "_law_term"] (spSpo K (n + 1)) := by
  refine okG F sc_law_spoiled (fun vs H Q E h => ?_) (fun cdv A outer s H vs Q E hr gd h => ?_)
  · obtain ⟨p, v, d, G, rfl, _⟩ := h
    rfl
  obtain ⟨p, v, d, G, rfl, e, sr, hd, hn, q⟩ := h
  refine ⟨_, (pss_cons (ps_if (pw_or (pt_not (pt_val (pe_callB (k_isi K) (by rfl) T.z_isinstance (by decide +kernel) (pa_cons (pv 1) (pa_cons (tyv "tuple" T.z_tuple (by decide +kernel)) pa_nil))))) (pw_or1 (pt_cmpR op_eq (cl (Df.up D_law_draw (by omega)) hr gd (pa_cons (pv 0) (pa_cons pe_int pa_nil))) pe_int (nomark _)))).pt (pss_one (ps_ret (cl (Df.up D_law_odd (by omega)) hr gd (pa_cons (pv 0) pa_nil)))) pss_nil)
  (pss_cons (ps_if (pt_cmpR op_eq (cl (Df.up D_law_draw (by omega)) hr gd (pa_cons (pv 0) (pa_cons pe_int pa_nil))) pe_int (nomark _)) (pss_one (ps_ret (pe_tup (pa_cons (pe_ix (k_ix_tup K) (pv 1) pe_int (fun _ _ => rfl)) (pa_cons (cl (Df.up D_law_spoiled (by omega)) hr gd (pa_cons (pv 0) (pa_cons (pe_ix (k_ix_tup K) (pv 1) pe_int (fun _ _ => rfl)) pa_nil))) (pa_cons (pe_ix (k_ix_tup K) (pv 1) pe_int (fun _ _ => rfl)) pa_nil)))))) pss_nil)
  (pss_one (ps_ret (pe_tup (pa_cons (pe_ix (k_ix_tup K) (pv 1) pe_int (fun _ _ => rfl)) (pa_cons (pe_ix (k_ix_tup K) (pv 1) pe_int (fun _ _ => rfl)) (pa_cons (cl (Df.up D_law_spoiled (by omega)) hr gd (pa_cons (pv 0) (pa_cons (pe_ix (k_ix_tup K) (pv 1) pe_int (fun _ _ => rfl)) pa_nil))) pa_nil)))))))), ?_⟩
  have odd : ∀ {Gi Hi : Hp}, Sr p G H Gi Hi → spOdd K [.ref p] Hi Q E0 := fun si => ⟨p, _, rfl, si.e, si.o, fun v' G' H' s' g => q v' G' H' (si.trans s') g⟩
  walk_at "rd"
  cases d with
  | tuple ds =>
    obtain ⟨o, l, r, rfl, ho, hl, hr'⟩ := nested_op hn
    cases hd with
    | tup hS hA =>
      cases hA with
      | cons h0 hA =>
      cases hA with
      | cons h1 hA =>
      cases hA with
      | cons h2 hA =>
      cases hA
      have hgo : gdD (.str o) := (nested_gd hn).1
      have hgl := nested_gd hl
      have hgr := nested_gd hr'
      have hd0 := Dq.tup hS (.cons h0 (.cons h1 (.cons h2 .nil)))
      walk_at "rd"
      refine d_draw e sr (by decide) (by decide) (fun c1 G1 H1 s1 _ _ => ?_)
      walk_at "rd"
      refine ite2 (fun _ => ?_) (fun _ => ?_)
      · walk_at "rd"
        exact odd s1
      walk_at "rd"
      refine d_draw (G := G1) (by walk_at "tr") (by walk_at "sr") (by decide) (by decide) (fun c2 G2 H2 s2 _ _ => ?_)
      walk_at "rd"
      refine ite2 (fun _ => ?_) (fun _ => ?_)
      · walk_at "rd"
        refine d_spo (d := l) (G := G2) (by walk_at "tr") (by walk_at "sr") (by walk_at "tr") hl (fun v' G3 H3 s3 g3 => ?_)
        walk_at "rd"
        rename_i t G4 H4 s4 e4 h4
        exact q (.ref t) G4 H4 (by walk_at "at") (gd_tup (st_of h4) (gdA_cons ⟨_, by walk_at "tr", hgo⟩ (gdA_cons (ex_gd s4.g g3) (gdA_cons ⟨r, by walk_at "tr", hgr⟩ gdA_nil))))
      · walk_at "rd"
        refine d_spo (d := r) (G := G2) (by walk_at "tr") (by walk_at "sr") (by walk_at "tr") hr' (fun v' G3 H3 s3 g3 => ?_)
        walk_at "rd"
        rename_i t G4 H4 s4 e4 h4
        exact q (.ref t) G4 H4 (by walk_at "at") (gd_tup (st_of h4) (gdA_cons ⟨_, by walk_at "tr", hgo⟩ (gdA_cons ⟨l, by walk_at "tr", hgl⟩ (gdA_cons (ex_gd s4.g g3) gdA_nil))))
  | _ => walk_at "rd"; exact odd (At.refl e sr)
theorem ok_deeper (F : Fun K "_law_deeper" "_law_deeper" s_law_deeper f fd) (T : Blt mg) (D_law_draw : Df P w K mg base CX0 1 "_law_draw" ["_law_source_here", "_law_many"] spDraw) (D_law_choose : Df P w K mg base CX0 2 "_law_choose" ["_law_source_here", "_law_items"] (spChoose K)) (D_law_value : Df P w K mg base CX0 2 "_law_value" ["_law_source_here"] spVal) :
    FnG P w K mg base CX0 3 f fd ["_law_source_here", "_law_term"] (spDeep K) := by
  refine okG F sc_law_deeper (fun vs H Q E h => ?_) (fun cdv A outer s H vs Q E hr gd h => ?_)
  · obtain ⟨p, v, d, G, rfl, _⟩ := h
    rfl
  obtain ⟨p, v, d, G, rfl, e, sr, hd, hn, q⟩ := h
  refine ⟨_, (pss_cons (ps_for PassesOwn.never rfl (pi_range1 rfl T.z_range (pa_cons (pe_ix (k_ix_list K) (pe_lst (pa_cons pe_int (pa_cons pe_int (pa_cons pe_int (pa_cons (cl (Df.up D_law_draw (by omega)) hr gd (pa_cons (pv 0) (pa_cons pe_int pa_nil))) pa_nil))))) (cl (Df.up D_law_draw (by omega)) hr gd (pa_cons (pv 0) (pa_cons pe_int pa_nil))) (fun _ _ => rfl)) pa_nil)) (pg_name (i := 2) sc_law_deeper.nd rfl (by first | exact Or.inl rfl | exact Or.inr rfl)) (pss_cons (ps_parA (i := 3) (j := 4) sc_law_deeper.nd (pa_cons (cl (Df.up D_law_choose (by omega)) hr gd (pa_cons (pv 0) (pa_cons (pe_lst (pa_cons pe_str (pa_cons pe_str (pa_cons pe_str pa_nil)))) pa_nil))) (pa_cons (cl (Df.up D_law_value (by omega)) hr gd (pa_cons (pv 0) pa_nil)) pa_nil)))
  (pss_one (ps_set (i := 1) sc_law_deeper.nd rfl (by first | exact Or.inl rfl | exact Or.inr rfl) (pe_ifExp (pt_cmpR op_eq (cl (Df.up D_law_draw (by omega)) hr gd (pa_cons (pv 0) (pa_cons pe_int pa_nil))) pe_int (nomark _)) (pe_tup (pa_cons (pv 3) (pa_cons (pv 1) (pa_cons (pv 4) pa_nil)))) (pe_tup (pa_cons (pv 3) (pa_cons (pv 4) (pa_cons (pv 1) pa_nil)))))))))
  (pss_one (ps_ret (pv 1)))), ?_⟩
  walk_at "rd"
  refine d_draw e sr (by decide) (by decide) (fun c1 G1 H1 s1 a1 a2 => ?_)
  walk_at "rd"
  refine d_mkL (G := G1) (by exact Nat.le_of_ble_eq_true rfl) (by walk_at "tr") (fun t G2 H2 s2 e2 h2 => ?_)
  walk_at "rd"
  refine d_draw e2 (by walk_at "sr") (by decide) (by decide) (fun c2 G3 H3 s3 b1 b2 => ?_)
  walk_at "rd"
  obtain ⟨m, m1, m2, hat⟩ : ∃ m : Int, 0 ≤ m ∧ m ≤ 5 ∧ atI [V.int 0, V.int 0, V.int 3, V.int c1] c2 = some (.int m) := by
    have : c2 = 0 ∨ c2 = 1 ∨ c2 = 2 ∨ c2 = 3 := by omega
    rcases this with rfl | rfl | rfl | rfl
    · exact ⟨0, by decide, by decide, rfl⟩
    · exact ⟨0, by decide, by decide, rfl⟩
    · exact ⟨3, by decide, by decide, rfl⟩
    · exact ⟨c1, a1, by omega, rfl⟩
  refine d_ixL (by walk_at "tr") hat ?_
  walk_at "rd"
  refine d_ir (by omega) (by omega) ?_
  refine for_it walk_range (fun i σ Hi => ∃ v' d' Gi o2 o3 o4, σ = [some (.ref p), some v', o2, o3, o4] ∧ Sr p G H Gi Hi ∧ Dq K Gi v' d' ∧ nested (4 + i) d' = true) ⟨v, d, G3, none, none, none, rfl, by walk_at "at", by walk_at "tr", hn⟩ (fun _ _ _ _ _ => trivial) ?_ ?_
  · clear s1 s2 e2 h2 s3
    rintro i x σ Hi Hi' hi ⟨v', d', Gi, o2, o3, o4, rfl, si, hd', hn'⟩ ⟨rfl, rfl⟩
    walk_at "rd"
    refine d_mkL (G := Gi) (by exact Nat.le_of_ble_eq_true rfl) si.e (fun t5 G5 H5 s5 e5 h5 => ?_)
    walk_at "rd"
    refine d_cho (xs := [V.str "add", V.str "mod", V.str "less"]) e5 (by walk_at "sr") (sl_of h5) (by decide) (by decide) (fun ww G6 H6 s6 hw => ?_)
    obtain ⟨wo, ho, rfl⟩ : ∃ wo, wo ∈ OPS ∧ ww = .str wo := by
      simp only [List.mem_cons, List.not_mem_nil, or_false] at hw
      rcases hw with rfl | rfl | rfl
      · exact ⟨_, by decide, rfl⟩
      · exact ⟨_, by decide, rfl⟩
      · exact ⟨_, by decide, rfl⟩
    walk_at "rd"
    refine d_val (G := G6) (by walk_at "tr") (by walk_at "sr") (fun z G7 H7 s7 hz => ?_)
    walk_at "rd"
    refine d_draw (G := G7) (by walk_at "tr") (by walk_at "sr") (by decide) (by decide) (fun c4 G8 H8 s8 _ _ => ?_)
    have hnz : nested (4 + i) (.int z) = true := by rw [show 4 + i = (3 + i) + 1 by omega]; exact nested_int _ hz
    walk_at "rd"
    refine ite2 (fun _ => ?_) (fun _ => ?_)
    · walk_at "rd"
      rename_i t9 G9 H9 s9 e9 h9
      refine ⟨.ref t9, .tuple [.str wo, d', .int z], G9, _, _, _, rfl, by walk_at "at", .tup (st_of h9) (.cons (.str _) (.cons (by walk_at "tr") (.cons (.int _) .nil))), ?_⟩
      rw [show 4 + (i + 1) = (4 + i) + 1 by omega, nested_tup]
      show (_ || (decide (wo ∈ OPS) && (nested (4 + i) d' && nested (4 + i) (.int z)))) = true
      rw [decide_eq_true ho, hn', hnz]; simp
    · walk_at "rd"
      rename_i t9 G9 H9 s9 e9 h9
      refine ⟨.ref t9, .tuple [.str wo, .int z, d'], G9, _, _, _, rfl, by walk_at "at", .tup (st_of h9) (.cons (.str _) (.cons (.int _) (.cons (by walk_at "tr") .nil))), ?_⟩
      rw [show 4 + (i + 1) = (4 + i) + 1 by omega, nested_tup]
      show (_ || (decide (wo ∈ OPS) && (nested (4 + i) (.int z) && nested (4 + i) d'))) = true
      rw [decide_eq_true ho, hn', hnz]; simp
  · rintro σ Hi ⟨v', d', Gi, o2, o3, o4, rfl, si, hd', hn'⟩
    walk_at "rd"
    exact q v' d' Gi Hi si hd' (nested_le (by omega) hn')
end

abbrev s_law_limits_hold : Stmt := topS 42
abbrev N_law_limits_hold : List Str := ["_law_source_here", "_law_size", "_law_item", "_law_due"]
theorem sc_law_limits_hold : FnScope N_law_limits_hold ["_law_source_here"] (defScope s_law_limits_hold) := ⟨rfl, rfl, rfl, by decide +kernel, rfl, by decide +kernel, by decide +kernel⟩
abbrev s_law_cell_holds : Stmt := topS 43
abbrev N_law_cell_holds : List Str := ["_law_source_here", "_law_names", "_law_known", "_law_turn", "_law_term", "_law_due", "_law_word"]
theorem sc_law_cell_holds : FnScope N_law_cell_holds ["_law_source_here"] (defScope s_law_cell_holds) := ⟨rfl, rfl, rfl, by decide +kernel, rfl, by decide +kernel, by decide +kernel⟩
def spCell : Sp := fun vs H Q _ => ∃ p G, vs = [.ref p] ∧ Ex G H ∧ Src p G H ∧ ∀ G' H', Sr p G H G' H' → Q (.bl true) H'
theorem d_words {K : PySem.W.Frag} {p u : Addr} {us : List Str} {m : Nat} {i : Int} {G H : Hp} {Q : VK} {E : XK} (hi : i = (m : Nat)) (e : Ex G H) (s : Src p G H) (h : SqL K G u (us.map V.str)) (l : us.length + m ≤ 25)
    (q : ∀ r ws G' H', Sr p G H G' H' → G' r = some (.lst ((ws : List Str).map V.str)) → ws.length = m → (∀ x ∈ ws, NameOk x) → (us.Nodup → (us ++ ws).Nodup) → Q (.ref r) H') : spWords K [.ref p, .int i, .ref u] H Q E := ⟨p, u, m, us, G, by rw [hi], e, s, h, l, q⟩
theorem clog' {a : Int} (h : InL a) : a.natAbs.log2 < 1920 := Nat.lt_of_lt_of_le (PySem.Flt.log2_lt_of (by decide) (bits h)) (by decide)
theorem shown_bl2 (b : Bool) : Shown (.list [.bool b, .bool b]) := by
  cases b <;> exact shown_of rfl rfl (by decide) (by decide)
section
variable {P : Program} {w : World} {K : PySem.W.Frag} {mg : Str → Option Value} {base : Heap} {f : Addr} {fd : FuncData}
theorem ok_limits (F : Fun K "_law_limits_hold" "_law_limits_hold" s_law_limits_hold f fd) (T : Blt mg) (D_law_draw : Df P w K mg base CX0 1 "_law_draw" ["_law_source_here", "_law_many"] spDraw) (D_law_value : Df P w K mg base CX0 2 "_law_value" ["_law_source_here"] spVal)
    (D_limited : Df P w K mg base CX0 1 "limited" ["number"] (spI1 lim)) : FnG P w K mg base CX0 3 f fd ["_law_source_here"] spCell := by
  refine okG F sc_law_limits_hold (fun vs H Q E h => ?_) (fun cdv A outer s H vs Q E hr gd h => ?_)
  · obtain ⟨p, G, rfl, _⟩ := h
    rfl
  obtain ⟨p, G, rfl, e, sr, q⟩ := h
  refine ⟨_, (pss_cons (ps_set (i := 1) sc_law_limits_hold.nd rfl (by first | exact Or.inl rfl | exact Or.inr rfl) (cl (Df.up D_law_draw (by omega)) hr gd (pa_cons (pv 0) (pa_cons (pe_op op_pow pe_int pe_int) pa_nil))))
  (pss_cons (ps_for PassesOwn.never rfl (k_for_list K (pe_lst (pa_cons (pv 1) (pa_cons (pe_op op_sub pe_int (pv 1)) (pa_cons (pe_op op_pow pe_int pe_int) (pa_cons (pe_op op_add (pe_op op_pow pe_int pe_int) pe_int) (pa_cons (pe_op op_sub pe_int (pe_op op_pow pe_int pe_int)) (pa_cons (pe_op op_sub (pe_op op_sub pe_int (pe_op op_pow pe_int pe_int)) pe_int) (pa_cons pe_int (pa_cons (cl (Df.up D_law_value (by omega)) hr gd (pa_cons (pv 0) pa_nil)) pa_nil)))))))))) (pg_name (i := 2) sc_law_limits_hold.nd rfl (by first | exact Or.inl rfl | exact Or.inr rfl)) (pss_cons (ps_set (i := 3) sc_law_limits_hold.nd rfl (by first | exact Or.inl rfl | exact Or.inr rfl) (pe_ifExp (pt_cmpR op_gt (pv 2) (pe_op op_pow pe_int pe_int) (nomark _)) (pe_op op_pow pe_int pe_int) (pe_ifExp (pt_cmpR op_lt (pv 2) (pe_op op_sub pe_int (pe_op op_pow pe_int pe_int)) (nomark _)) (pe_op op_sub pe_int (pe_op op_pow pe_int pe_int)) (pv 2))))
  (pss_one (ps_if (pt_cmpR op_ne (pe_callB (k_reprN hr gd) (by rfl) T.z_repr (by decide +kernel) (pa_cons (cl (Df.up D_limited (by omega)) hr gd (pa_cons (pv 2) pa_nil)) pa_nil)) (pe_callB (k_reprN hr gd) (by rfl) T.z_repr (by decide +kernel) (pa_cons (pv 3) pa_nil)) (nomark _)) (pss_one (ps_ret pe_bl)) pss_nil))))
  (pss_one (ps_ret pe_bl)))), ?_⟩
  walk_at "rd"
  refine d_draw e sr (by decide) (by decide) (fun c G1 H1 s1 a1 a2 => ?_)
  walk_at "rd"
  refine d_val (G := G1) (by walk_at "tr") (by walk_at "sr") (fun z G2 H2 s2 hz => ?_)
  walk_at "rd"
  refine d_mkL (G := G2) (by exact Nat.le_of_ble_eq_true rfl) (by walk_at "tr") (fun t G3 H3 s3 e3 h3 => ?_)
  walk_at "rd"
  refine for_it (walk_list (K := K) (a := t)) (fun _ σ Hi => ∃ o2 o3, σ = [some (.ref p), some (.int c), o2, o3] ∧ Hi = H3) ⟨none, none, rfl, rfl⟩ (fun _ _ Hi _ h => by obtain ⟨_, _, _, rfl⟩ := h; exact sl_of (e3 _ _ h3)) ?_ ?_
  · rintro i x σ Hi Hi' hi ⟨o2, o3, rfl, rfl⟩ ⟨rfl, hx⟩
    obtain ⟨n, rfl⟩ : ∃ n : Int, x = .int n := by
      have := List.mem_of_getElem? hx
      simp only [List.mem_cons, List.not_mem_nil, or_false] at this
      rcases this with rfl | rfl | rfl | rfl | rfl | rfl | rfl | rfl <;> exact ⟨_, rfl⟩
    have e60 : (10 : Int) ^ Int.toNat 60 = 10 ^ 60 := rfl
    walk_at "rd"
    refine ite2 (fun c1 => ?_) (fun c1 => ?_)
    · have e : (10 : Int) ^ Int.toNat 60 = lim n := by
        rw [e60] at c1 ⊢
        simp only [decide_eq_true_eq] at c1
        unfold lim LIM; omega
      walk_at "rd"
      refine d_spI1 ?_
      walk_at "rd"
      refine d_reprN (.int _) (.inl rfl) (shown_int (clog' (lim_in _))) ?_
      walk_at "rd"
      refine d_reprN (.int _) (.inl rfl) (shown_int (by rw [e]; exact clog' (lim_in _))) ?_
      walk_at "rd"
      refine d_F (by rw [e]; simp) ?_
      exact ⟨_, _, rfl, rfl⟩
    · walk_at "rd"
      refine ite2 (fun c2 => ?_) (fun c2 => ?_)
      · have e : 0 - (10 : Int) ^ Int.toNat 60 = lim n := by
          rw [e60] at c2 ⊢
          simp only [decide_eq_true_eq] at c2
          unfold lim LIM; omega
        walk_at "rd"
        refine d_spI1 ?_
        walk_at "rd"
        refine d_reprN (.int _) (.inl rfl) (shown_int (clog' (lim_in _))) ?_
        walk_at "rd"
        refine d_reprN (.int _) (.inl rfl) (shown_int (by rw [e]; exact clog' (lim_in _))) ?_
        walk_at "rd"
        refine d_F (by rw [e]; simp) ?_
        exact ⟨_, _, rfl, rfl⟩
      · have e : n = lim n := by
          rw [e60] at c1 c2
          simp only [decide_eq_true_eq] at c1 c2
          unfold lim LIM; omega
        walk_at "rd"
        refine d_spI1 ?_
        walk_at "rd"
        refine d_reprN (.int _) (.inl rfl) (shown_int (clog' (lim_in _))) ?_
        walk_at "rd"
        refine d_reprN (.int _) (.inl rfl) (shown_int (by rw [e]; exact clog' (lim_in _))) ?_
        walk_at "rd"
        refine d_F (by rw [← e]; simp) ?_
        exact ⟨_, _, rfl, rfl⟩
  · rintro σ Hi ⟨o2, o3, rfl, rfl⟩
    walk_at "rd"
    exact q G3 _ (by walk_at "at")
theorem ok_cell (F : Fun K "_law_cell_holds" "_law_cell_holds" s_law_cell_holds f fd) (T : Blt mg)
    (D_law_new_words : Df P w K mg base CX0 4 "_law_new_words" ["_law_source_here", "_law_many", "_law_used"] (spWords K)) (D_law_value : Df P w K mg base CX0 2 "_law_value" ["_law_source_here"] spVal)
    (D_law_draw : Df P w K mg base CX0 1 "_law_draw" ["_law_source_here", "_law_many"] spDraw)
    (D_law_expression : Df P w K mg base CX0 7 "_law_expression" ["_law_source_here", "_law_names", "_law_levels"] (spTerm K 4)) (D_law_deeper : Df P w K mg base CX0 3 "_law_deeper" ["_law_source_here", "_law_term"] (spDeep K))
    (D_law_spoiled : Df P w K mg base CX0 13 "_law_spoiled" ["_law_source_here", "_law_term"] (spSpo K 9)) (D_law_is_term : Df P w K mg base CX0 8 "_law_is_term" ["_law_item", "_law_levels"] (spTm K 6))
    (D_is_expression : Df P w K mg base CX0 10 "is_expression" ["value"] (spT K (nested 6))) (D_law_is_refused : Df P w K mg base CX0 12 "_law_is_refused" ["_law_term", "_law_known"] (spRef K))
    (D_law_limits_hold : Df P w K mg base CX0 3 "_law_limits_hold" ["_law_source_here"] spCell) : FnG P w K mg base CX0 20 f fd ["_law_source_here"] spCell := by
  refine okG F sc_law_cell_holds (fun vs H Q E h => ?_) (fun cdv A outer s H vs Q E hr gd h => ?_)
  · obtain ⟨p, G, rfl, _⟩ := h
    rfl
  obtain ⟨p, G, rfl, e, sr, q⟩ := h
  refine ⟨_, (pss_cons (ps_set (i := 1) sc_law_cell_holds.nd rfl (by first | exact Or.inl rfl | exact Or.inr rfl) (cl (Df.up D_law_new_words (by omega)) hr gd (pa_cons (pv 0) (pa_cons pe_int (pa_cons (pe_lst pa_nil) pa_nil)))))
  (pss_cons (ps_set (i := 2) sc_law_cell_holds.nd rfl (by first | exact Or.inl rfl | exact Or.inr rfl) (pe_callTy (k_dictP K rfl) (by rfl) T.z_dict (by decide +kernel) (pa_cons (pe_lc (own := [("_law_word", 6)]) (by rfl) sc_law_cell_holds.nd (k_for_list K (pv 1)) (blkOk_by (own := [("_law_word", 6)]) (N := N_law_cell_holds) (sc := defScope s_law_cell_holds) (by decide +kernel)) (fun _ _ _ _ _ => (pg_name (i := 6) sc_law_cell_holds.nd rfl (by first | exact Or.inl rfl | exact Or.inr rfl))) (fun _ _ _ _ _ => pts_nil) (fun _ _ _ _ _ => (pe_tup (pa_cons (pv 6) (pa_cons (cl (Df.up D_law_value (by omega)) hr gd (pa_cons (pv 0) pa_nil)) pa_nil))))) pa_nil)))
  (pss_cons (ps_for PassesOwn.never rfl (pi_range1 rfl T.z_range (pa_cons pe_int pa_nil)) (pg_name (i := 3) sc_law_cell_holds.nd rfl (by first | exact Or.inl rfl | exact Or.inr rfl)) (pss_cons (ps_set (i := 4) sc_law_cell_holds.nd rfl (by first | exact Or.inl rfl | exact Or.inr rfl) (cl (Df.up D_law_deeper (by omega)) hr gd (pa_cons (pv 0) (pa_cons (cl (Df.up D_law_expression (by omega)) hr gd (pa_cons (pv 0) (pa_cons (pv 1) (pa_cons pe_int pa_nil)))) pa_nil))))
  (C8.pss_cut (ps_if (pt_cmpR op_eq (cl (Df.up D_law_draw (by omega)) hr gd (pa_cons (pv 0) (pa_cons pe_int pa_nil))) pe_int (nomark _)) (pss_one (ps_set (i := 4) sc_law_cell_holds.nd rfl (by first | exact Or.inl rfl | exact Or.inr rfl) (cl (Df.up D_law_spoiled (by omega)) hr gd (pa_cons (pv 0) (pa_cons (pv 4) pa_nil))))) pss_nil)
  (pss_cons (ps_set (i := 5) sc_law_cell_holds.nd rfl (by first | exact Or.inl rfl | exact Or.inr rfl) (cl (Df.up D_law_is_term (by omega)) hr gd (pa_cons (pv 4) (pa_cons pe_int pa_nil))))
  (pss_cons (ps_if (pt_cmpR op_ne (pe_callB (k_reprN hr gd) (by rfl) T.z_repr (by decide +kernel) (pa_cons (pe_lst (pa_cons (cl (Df.up D_is_expression (by omega)) hr gd (pa_cons (pv 4) pa_nil)) (pa_cons (cl (Df.up D_is_expression (by omega)) hr gd (pa_cons (pv 4) pa_nil)) pa_nil))) pa_nil)) (pe_callB (k_reprN hr gd) (by rfl) T.z_repr (by decide +kernel) (pa_cons (pe_lst (pa_cons (pv 5) (pa_cons (pv 5) pa_nil))) pa_nil)) (nomark _)) (pss_one (ps_ret pe_bl)) pss_nil)
  (pss_one (ps_if (pw_and (pt_not (pt_val (pv 5))) (pw_and1 (pt_not (pt_val (cl (Df.up D_law_is_refused (by omega)) hr gd (pa_cons (pv 4) (pa_cons (pv 2) pa_nil))))))).pt (pss_one (ps_ret pe_bl)) pss_nil)))))))
  (pss_one (ps_ret (cl (Df.up D_law_limits_hold (by omega)) hr gd (pa_cons (pv 0) pa_nil))))))), ?_⟩
  walk_at "rd"
  refine d_mkL (G := G) (by exact Nat.le_of_ble_eq_true rfl) e (fun n0 G1 H1 s1 e1 h1 => ?_)
  walk_at "rd"
  refine d_words (m := 3) (us := []) rfl e1 (by walk_at "sr") (sl_of h1) (by decide) (fun u us G2 H2 s2 hu lu ou nu => ?_)
  walk_at "rd"
  refine lcS (Own.src p) (walk_list (K := K) (a := u) (xs := us.map V.str)) (M := fun a => a = p) (G := G2) (by walk_at "tr") (by walk_at "sr") (by rw [List.length_map]; omega) (fun G' H' a => sl_of (a.e _ _ (a.s.g _ _ hu)))
    (fun i acc G' => ∃ (ps : List Addr) (en : List (Str × Int)), acc = ps.map V.ref ∧ Paired (fun (p : Addr) (q : Str × Int) => G' p = some (.tup [.str q.1, .int q.2])) ps en ∧ ps.length ≤ i) ⟨[], [], rfl, .nil, Nat.le_refl _⟩ ?_ ?_ ?_ ?_
  · rintro i acc G' ⟨ps, en, rfl, hp, hk⟩
    rw [List.length_map]; omega
  · rintro acc G5 G6 x ⟨ps, en, rfl, hp, hk⟩
    exact ⟨ps, en, rfl, paired_imp (fun a b h => x _ _ h) hp, hk⟩
  · rintro i x acc G5 H5 H5' hi a5 ⟨ps, en, rfl, hp, hk⟩ ⟨rfl, hx⟩ P P' hP hP'
    rw [List.getElem?_map] at hx
    obtain ⟨z, hz, rfl⟩ := Option.map_eq_some_iff.mp hx
    walk_at "rd"
    refine d_val (by walk_at "tr") (by walk_at "sr") (fun n G6 H6 s6 hn => ?_)
    walk_at "rd"
    rename_i t7 G7 H7 s7 e7 h7
    exact hP (.ref t7) G7 H7 (by walk_at "at") ⟨ps ++ [t7], en ++ [(z, n)], by rw [List.map_append]; rfl, Paired.snoc (paired_imp (fun a b h => s7.g _ _ (s6.s.g _ _ h)) hp) h7, by rw [List.length_append]; simp only [List.length_singleton]; omega⟩
  rintro D acc G5 H5 a5 hD ⟨ps, en, rfl, hp, hk⟩
  walk_at "rd"
  have hp' : Paired (fun (p : Addr) (kv : Key × V) => SqT K H5 p [kV kv.1, kv.2]) ps (envK en) := paired_map (F' := fun (p : Addr) (kv : Key × V) => SqT K H5 p [kV kv.1, kv.2]) (f := fun q : Str × Int => ((Sum.inr q.1 : Key), V.int q.2)) (fun a b h => st_of (a5.e _ _ h)) hp
  refine d_dctN (ps := ps) (kvs := envK en) (sl_of (a5.e _ _ hD)) hp' a5.e (fun kd G6 H6 s6 e6 hkd => ?_)
  have hu6 : SqL K G6 u (us.map V.str) := by walk_at "tr"
  have sr6 : Sr p G H G6 H6 := by walk_at "at"
  clear s1 e1 h1 s2 a5 s6 hp hp' hD hkd
  walk_at "rd"
  refine d_ir (by decide) (by decide) ?_
  refine for_it walk_range (fun i σ Hi => ∃ o3 o4 o5 o6, σ = [some (.ref p), some (.ref u), some (.ref kd), o3, o4, o5, o6] ∧ Kp p G6 H6 Hi) ⟨none, none, none, none, rfl, .refl e6 sr6.o⟩ (fun _ _ _ _ _ => trivial) ?_ ?_
  · rintro i x σ Hi Hi' hi ⟨o3, o4, o5, o6, rfl, k0⟩ ⟨rfl, rfl⟩
    walk_at "rd"
    refine d_term (us := us) (n := 4) rfl (G := G6) k0.e k0.s (by walk_at "tr") (by omega) ou (by decide) (fun v dt G7 H7 s7 r7 n7 f7 y7 => ?_)
    walk_at "rd"
    refine ⟨p, v, dt, G7, rfl, by walk_at "tr", by walk_at "sr", by walk_at "tr", n7, fun v8 d8 G8 H8 s8 r8 n8 => ?_⟩
    walk_at "rd"
    refine d_cut (fun σ' H' => ∃ o3 v9 o5 o6 G', σ' = [some (.ref p), some (.ref u), some (.ref kd), o3, some v9, o5, o6] ∧ Sr p G6 Hi' G' H' ∧ Gd K G' v9) ?_ ?_
    · walk_at "rd"
      refine d_draw (G := G8) (by walk_at "tr") (by walk_at "sr") (by decide) (by decide) (fun c4 G9 H9 s9 _ _ => ?_)
      walk_at "rd"
      refine ite2 (fun _ => ?_) (fun _ => ?_)
      · walk_at "rd"
        refine d_spo (d := d8) (G := G9) (by walk_at "tr") (by walk_at "sr") (by walk_at "tr") n8 (fun v' Ga Ha sa ga => ?_)
        walk_at "rd"
        exact ⟨_, v', _, _, Ga, rfl, by walk_at "at", ga⟩
      · walk_at "rd"
        exact ⟨_, v8, _, _, G9, rfl, by walk_at "at", ex_gd s9.s.g ⟨d8, r8, nested_gd n8⟩⟩
    · clear s7 s8
      rintro σ' H' ⟨o3', v9, o5', o6', G9, rfl, s9, d9, r9, g9⟩
      have fit9 : fitD d9 := gd_fit _ g9
      walk_at "rd"
      refine d_tm (n := 6) (d := d9) rfl (by decide) (G := G9) (by walk_at "tr") (by walk_at "tr") g9 (fun Ga Ha sa ea => ?_)
      walk_at "rd"
      refine d_mkL (G := ?Gb) (by exact Nat.le_of_ble_eq_true rfl) ?eb (fun tc Gc Hc sc ec hc => ?_)
      case eb => walk_at "tr"
      walk_at "rd"
      refine d_reprN (.lst (sl_of (ec _ _ hc)) (.cons (.bl _) (.cons (.bl _) .nil))) (.inl rfl) (shown_bl2 _) ?_
      walk_at "rd"
      refine d_mkL (G := Gc) (by exact Nat.le_of_ble_eq_true rfl) ec (fun td Gd' Hd sd ed hd' => ?_)
      walk_at "rd"
      refine d_reprN (.lst (sl_of (ed _ _ hd')) (.cons (.bl _) (.cons (.bl _) .nil))) (.inl rfl) (shown_bl2 _) ?_
      walk_at "rd"
      refine d_F (by simp) ?_
      walk_at "rd"
      have kz : Kp p G6 Hi' Hd := .forget (by walk_at "at" : Sr p G6 Hi' Gd' Hd) (Ex.refl _)
      cases hn6 : nested 6 d9 with
      | true =>
        walk_at "rd"
        exact ⟨_, _, _, _, rfl, k0.trans kz⟩
      | false =>
        walk_at "rd"
        refine ⟨v9, d9, Gd', _, rfl, ed, by walk_at "tr", fit9, hn6, fun Ge He se ee => ?_⟩
        walk_at "rd"
        exact ⟨_, _, _, _, rfl, k0.trans (.forget (by walk_at "at" : Sr p G6 Hi' Ge He) (Ex.refl _))⟩
  · rintro σ Hi ⟨o3, o4, o5, o6, rfl, k0⟩
    walk_at "rd"
    exact ⟨p, G6, rfl, k0.e, k0.s, fun G' H' s' => q G' H' (by walk_at "at")⟩
end

abbrev s_law : Stmt := topS 44
abbrev N_law : List Str := ["_law_script", "_law_told", "_law_place"]
theorem sc_law : FnScope N_law ["_law_script"] (defScope s_law) := ⟨rfl, rfl, rfl, by decide +kernel, rfl, by decide +kernel, by decide +kernel⟩
def spLaw (K : PySem.W.Frag) : Sp := fun vs H Q _ => ∃ (a : Addr) (ns : List Int), vs = [.ref a] ∧ SqL K H a (ns.map V.int) ∧ ns.length ≤ 10000 ∧ ∀ H', Q (.bl true) H'
theorem all_true {acc : List V} (h : ∀ (i : Nat) (v : V), acc[i]? = some v → v = V.bl true) : acc = (List.replicate acc.length true).map V.bl := by
  refine List.ext_getElem (by rw [List.length_map, List.length_replicate]) fun i h1 h2 => ?_
  rw [h i acc[i] (List.getElem?_eq_getElem h1)]
  simp
structure TxtL (K : PySem.W.Frag) (mg : Str → Option Value) (aO : Addr) : Prop where
  c_LIMIT : ∃ u, mg "LIMIT" = some u ∧ RelV (.int LIM) u
  c_MOST_LEVELS : ∃ u, mg "MOST_LEVELS" = some u ∧ RelV (.int 6) u
  c_OPERATORS : ∃ u, mg "OPERATORS" = some u ∧ RelV (.ref aO) u
  t_ops : ∀ H, SqT K H aO (OPS.map V.str)
  z_all : mg "all" = none
  z_len : mg "len" = none
  z_max : mg "max" = none
  z_min : mg "min" = none
  z_range : mg "range" = none
  z_repr : mg "repr" = none
def told : PyData := .list [.int LIM, .int 6, .tuple (OPS.map PyData.str)]
theorem told_shown : Shown told := shown_of (by decide +kernel) (by decide +kernel) (by decide +kernel) (by decide +kernel)
section
variable {P : Program} {w : World} {K : PySem.W.Frag} {mg : Str → Option Value} {base : Heap} {f aO : Addr} {fd : FuncData}
theorem ok_law (F : Fun K "law" "law" s_law f fd) (T : TxtL K mg aO) (D_law_source : Df P w K mg base CX0 1 "_law_source" ["_law_script", "_law_place"] (spSource K)) (D_law_cell_holds : Df P w K mg base CX0 20 "_law_cell_holds" ["_law_source_here"] spCell) :
    FnG P w K mg base CX0 21 f fd ["_law_script"] (spLaw K) := by
  refine okG F sc_law (fun vs H Q E h => ?_) (fun cdv A outer s H vs Q E hr gd h => ?_)
  · obtain ⟨a, ns, rfl, _⟩ := h
    rfl
  obtain ⟨a, ns, rfl, hs, hl, q⟩ := h
  refine ⟨_, (pss_cons (ps_set (i := 1) sc_law.nd rfl (by first | exact Or.inl rfl | exact Or.inr rfl) (pe_callB (k_reprN hr gd) (by rfl) T.z_repr (by decide +kernel) (pa_cons (pe_lst (pa_cons (gcv T.c_LIMIT) (pa_cons (gcv T.c_MOST_LEVELS) (pa_cons (gcv T.c_OPERATORS) pa_nil)))) pa_nil)))
  (pss_cons (ps_if (pt_cmpR op_ne (pv 1) (pe_callB (k_reprN hr gd) (by rfl) T.z_repr (by decide +kernel) (pa_cons (pe_lst (pa_cons (pe_op op_pow pe_int pe_int) (pa_cons pe_int (pa_cons (pe_tup (pa_cons pe_str (pa_cons pe_str (pa_cons pe_str (pa_cons pe_str (pa_cons pe_str (pa_cons pe_str (pa_cons pe_str pa_nil)))))))) pa_nil)))) pa_nil)) (nomark _)) (pss_one (ps_ret pe_bl)) pss_nil)
  (pss_one (ps_ret (pe_callB (k_all K rfl) (by rfl) T.z_all (by decide +kernel) (pa_cons (pe_lc (own := [("_law_place", 2)]) (by rfl) sc_law.nd (pi_range1 rfl T.z_range (pa_cons (pe_callB (c_max2 rfl) (by rfl) T.z_max (by decide +kernel) (pa_cons pe_int (pa_cons (pe_callB (c_min2 rfl) (by rfl) T.z_min (by decide +kernel) (pa_cons pe_int (pa_cons (pe_callB (k_len K) (by rfl) T.z_len (by decide +kernel) (pa_cons (pv 0) pa_nil)) pa_nil))) pa_nil))) pa_nil)) (blkOk_by (own := [("_law_place", 2)]) (N := N_law) (sc := defScope s_law) (by decide +kernel)) (fun _ _ _ _ _ => (pg_name (i := 2) sc_law.nd rfl (by first | exact Or.inl rfl | exact Or.inr rfl))) (fun _ _ _ _ _ => pts_nil) (fun _ _ _ _ _ => (cl (Df.up D_law_cell_holds (by omega)) hr gd (pa_cons (cl (Df.up D_law_source (by omega)) hr gd (pa_cons (pv 0) (pa_cons (pv 2) pa_nil))) pa_nil)))) pa_nil)))))), ?_⟩
  walk_at "rd"
  refine d_mkL (G := H) (by exact Nat.le_of_ble_eq_true rfl) (Ex.refl H) (fun t1 G1 H1 s1 e1 h1 => ?_)
  walk_at "rd"
  refine d_reprN (d := told) (.lst (sl_of (e1 _ _ h1)) (.cons (.int _) (.cons (.int _) (.cons (.tup (T.t_ops _) (dq_strs OPS)) .nil)))) (.inl rfl) told_shown ?_
  walk_at "rd"
  rename_i t2 G2 H2 s2 e2 h2
  refine d_mkL (G := G2) (by exact Nat.le_of_ble_eq_true rfl) e2 (fun t3 G3 H3 s3 e3 h3 => ?_)
  walk_at "rd"
  have hops : SqT K H3 t2 (OPS.map V.str) := st_of (e3 _ _ (s3.g _ _ h2))
  refine d_reprN (d := told) (.lst (sl_of (e3 _ _ h3)) (.cons (.int _) (.cons (.int _) (.cons (.tup hops (dq_strs OPS)) .nil)))) (.inl rfl) told_shown ?_
  walk_at "rd"
  refine d_F (by simp) ?_
  walk_at "rd"
  refine d_ir (by omega) (by omega) ?_
  refine lcM Own.nil walk_range (G := G3) e3 trivial (by omega) (fun _ _ _ => trivial) (fun _ v _ => v = .bl true) (fun _ _ _ _ _ r => r) ?_ ?_
  · rintro i x G5 H5 H5' hi a5 ⟨rfl, y2⟩ P hP P'
    subst y2
    walk_at "rd"
    refine ⟨a, ns, i, G5, by show [V.ref a, V.int (0 + (i : Nat))] = _; rw [Int.zero_add], a5.e, by walk_at "tr", by omega, fun p H6 np s6 sr => ?_⟩
    walk_at "rd"
    exact ⟨p, G5, rfl, s6.h, sr, fun G7 H7 s7 => hP _ G7 H7 ⟨Ste.src np s6 s7, s7.e, trivial⟩ rfl⟩
  · intro D acc G5 H5 a5 gD la hacc
    rw [all_true hacc] at gD
    walk_at "rd"
    refine d_all (sl_of (a5.e _ _ gD)) ?_
    rw [show (List.replicate acc.length true).all id = true from by simp]
    exact q H5
end

theorem all_mk {l : PySem.W.OpenLaw} {w : World} {K : PySem.W.Frag} {h : Heap} {mg : Str → Option Value} {fa : Addr} {f0 f1 f2 f3 f4 f5 f6 f7 f8 f9 f10 f11 f12 f13 f14 f15 f16 f17 f18 f19 f20 f21 f22 f23 : Addr} (X : K.In h) (G : h.Ns mainGlobals mg) (hfa : mg "law" = some (.ref fa))
    {od0 an0 od1 an1 od2 an2 od3 an3 od4 an4 od5 an5 od6 an6 od7 an7 od8 an8 od9 an9 od10 an10 od11 an11 od12 an12 od13 an13 od14 an14 od15 an15 od16 an16 od17 an17 od18 an18 od19 an19 od20 an20 od21 an21 od22 an22 od23 an23 : Option Addr} {sl0 sl1 sl2 sl3 sl4 sl5 sl6 sl7 sl8 sl9 sl10 sl11 sl12 sl13 sl14 sl15 sl16 sl17 sl18 sl19 sl20 sl21 sl22 sl23 : Array (Option Value)} {oc0 kV0 dc0 pm0 cd0 ct0 oc1 kV1 dc1 pm1 cd1 ct1 oc2 kV2 dc2 pm2 cd2 ct2 oc3 kV3 dc3 pm3 cd3 ct3 oc4 kV4 dc4 pm4 cd4 ct4 oc5 kV5 dc5 pm5 cd5 ct5 oc6 kV6 dc6 pm6 cd6 ct6 oc7 kV7 dc7 pm7 cd7 ct7 oc8 kV8 dc8 pm8 cd8 ct8 oc9 kV9 dc9 pm9 cd9 ct9 oc10 kV10 dc10 pm10 cd10 ct10 oc11 kV11 dc11 pm11 cd11 ct11 oc12 kV12 dc12 pm12 cd12 ct12 oc13 kV13 dc13 pm13 cd13 ct13 oc14 kV14 dc14 pm14 cd14 ct14 oc15 kV15 dc15 pm15 cd15 ct15 oc16 kV16 dc16 pm16 cd16 ct16 oc17 kV17 dc17 pm17 cd17 ct17 oc18 kV18 dc18 pm18 cd18 ct18 oc19 kV19 dc19 pm19 cd19 ct19 oc20 kV20 dc20 pm20 cd20 ct20 oc21 kV21 dc21 pm21 cd21 ct21 oc22 kV22 dc22 pm22 cd22 ct22 oc23 kV23 dc23 pm23 cd23 ct23 : Value}
    {u0 u1 u2 u3 u4 u5 u6 u7 u8 : Value}
    {Ce Cl Cp Cs : Addr}
    {aO aR : Addr} {odO : Option Addr} {itO : Array Value} {nO : Nat} {slO : Array (Option Value)}
    (a0 : PySem.W.nsIn K mainGlobals "is_integer" = some (some (.ref f0))) (l0 : K.lookup f0 = some ⟨oc0, od0, .func (PySem.W.fnOf "is_integer" "is_integer" (defArgs s_is_integer) (defBody s_is_integer) (defScope s_is_integer) .none kV0 dc0 pm0 an0 cd0 ct0), sl0⟩) (c0 : PySem.W.codeIn K cd0 "is_integer" = true) (k0 : PySem.W.keepIn K (.ref f0) = true)
    (a1 : PySem.W.nsIn K mainGlobals "is_value" = some (some (.ref f1))) (l1 : K.lookup f1 = some ⟨oc1, od1, .func (PySem.W.fnOf "is_value" "is_value" (defArgs s_is_value) (defBody s_is_value) (defScope s_is_value) .none kV1 dc1 pm1 an1 cd1 ct1), sl1⟩) (c1 : PySem.W.codeIn K cd1 "is_value" = true) (k1 : PySem.W.keepIn K (.ref f1) = true)
    (a2 : PySem.W.nsIn K mainGlobals "is_name" = some (some (.ref f2))) (l2 : K.lookup f2 = some ⟨oc2, od2, .func (PySem.W.fnOf "is_name" "is_name" (defArgs s_is_name) (defBody s_is_name) (defScope s_is_name) .none kV2 dc2 pm2 an2 cd2 ct2), sl2⟩) (c2 : PySem.W.codeIn K cd2 "is_name" = true) (k2 : PySem.W.keepIn K (.ref f2) = true)
    (a3 : PySem.W.nsIn K mainGlobals "limited" = some (some (.ref f3))) (l3 : K.lookup f3 = some ⟨oc3, od3, .func (PySem.W.fnOf "limited" "limited" (defArgs s_limited) (defBody s_limited) (defScope s_limited) .none kV3 dc3 pm3 an3 cd3 ct3), sl3⟩) (c3 : PySem.W.codeIn K cd3 "limited" = true) (k3 : PySem.W.keepIn K (.ref f3) = true)
    (a4 : PySem.W.nsIn K mainGlobals "is_nested" = some (some (.ref f4))) (l4 : K.lookup f4 = some ⟨oc4, od4, .func (PySem.W.fnOf "is_nested" "is_nested" (defArgs s_is_nested) (defBody s_is_nested) (defScope s_is_nested) .none kV4 dc4 pm4 an4 cd4 ct4), sl4⟩) (c4 : PySem.W.codeIn K cd4 "is_nested" = true) (k4 : PySem.W.keepIn K (.ref f4) = true)
    (a5 : PySem.W.nsIn K mainGlobals "is_expression" = some (some (.ref f5))) (l5 : K.lookup f5 = some ⟨oc5, od5, .func (PySem.W.fnOf "is_expression" "is_expression" (defArgs s_is_expression) (defBody s_is_expression) (defScope s_is_expression) .none kV5 dc5 pm5 an5 cd5 ct5), sl5⟩) (c5 : PySem.W.codeIn K cd5 "is_expression" = true) (k5 : PySem.W.keepIn K (.ref f5) = true)
    (a6 : PySem.W.nsIn K mainGlobals "evaluate" = some (some (.ref f6))) (l6 : K.lookup f6 = some ⟨oc6, od6, .func (PySem.W.fnOf "evaluate" "evaluate" (defArgs s_evaluate) (defBody s_evaluate) (defScope s_evaluate) .none kV6 dc6 pm6 an6 cd6 ct6), sl6⟩) (c6 : PySem.W.codeIn K cd6 "evaluate" = true) (k6 : PySem.W.keepIn K (.ref f6) = true)
    (a7 : PySem.W.nsIn K mainGlobals "_law_source" = some (some (.ref f7))) (l7 : K.lookup f7 = some ⟨oc7, od7, .func (PySem.W.fnOf "_law_source" "_law_source" (defArgs s_law_source) (defBody s_law_source) (defScope s_law_source) .none kV7 dc7 pm7 an7 cd7 ct7), sl7⟩) (c7 : PySem.W.codeIn K cd7 "_law_source" = true) (k7 : PySem.W.keepIn K (.ref f7) = true)
    (a8 : PySem.W.nsIn K mainGlobals "_law_draw" = some (some (.ref f8))) (l8 : K.lookup f8 = some ⟨oc8, od8, .func (PySem.W.fnOf "_law_draw" "_law_draw" (defArgs s_law_draw) (defBody s_law_draw) (defScope s_law_draw) .none kV8 dc8 pm8 an8 cd8 ct8), sl8⟩) (c8 : PySem.W.codeIn K cd8 "_law_draw" = true) (k8 : PySem.W.keepIn K (.ref f8) = true)
    (a9 : PySem.W.nsIn K mainGlobals "_law_choose" = some (some (.ref f9))) (l9 : K.lookup f9 = some ⟨oc9, od9, .func (PySem.W.fnOf "_law_choose" "_law_choose" (defArgs s_law_choose) (defBody s_law_choose) (defScope s_law_choose) .none kV9 dc9 pm9 an9 cd9 ct9), sl9⟩) (c9 : PySem.W.codeIn K cd9 "_law_choose" = true) (k9 : PySem.W.keepIn K (.ref f9) = true)
    (a10 : PySem.W.nsIn K mainGlobals "_law_new_word" = some (some (.ref f10))) (l10 : K.lookup f10 = some ⟨oc10, od10, .func (PySem.W.fnOf "_law_new_word" "_law_new_word" (defArgs s_law_new_word) (defBody s_law_new_word) (defScope s_law_new_word) .none kV10 dc10 pm10 an10 cd10 ct10), sl10⟩) (c10 : PySem.W.codeIn K cd10 "_law_new_word" = true) (k10 : PySem.W.keepIn K (.ref f10) = true)
    (a11 : PySem.W.nsIn K mainGlobals "_law_new_words" = some (some (.ref f11))) (l11 : K.lookup f11 = some ⟨oc11, od11, .func (PySem.W.fnOf "_law_new_words" "_law_new_words" (defArgs s_law_new_words) (defBody s_law_new_words) (defScope s_law_new_words) .none kV11 dc11 pm11 an11 cd11 ct11), sl11⟩) (c11 : PySem.W.codeIn K cd11 "_law_new_words" = true) (k11 : PySem.W.keepIn K (.ref f11) = true)
    (a12 : PySem.W.nsIn K mainGlobals "_law_value" = some (some (.ref f12))) (l12 : K.lookup f12 = some ⟨oc12, od12, .func (PySem.W.fnOf "_law_value" "_law_value" (defArgs s_law_value) (defBody s_law_value) (defScope s_law_value) .none kV12 dc12 pm12 an12 cd12 ct12), sl12⟩) (c12 : PySem.W.codeIn K cd12 "_law_value" = true) (k12 : PySem.W.keepIn K (.ref f12) = true)
    (a13 : PySem.W.nsIn K mainGlobals "_law_expression" = some (some (.ref f13))) (l13 : K.lookup f13 = some ⟨oc13, od13, .func (PySem.W.fnOf "_law_expression" "_law_expression" (defArgs s_law_expression) (defBody s_law_expression) (defScope s_law_expression) .none kV13 dc13 pm13 an13 cd13 ct13), sl13⟩) (c13 : PySem.W.codeIn K cd13 "_law_expression" = true) (k13 : PySem.W.keepIn K (.ref f13) = true)
    (a14 : PySem.W.nsIn K mainGlobals "_law_is_integer" = some (some (.ref f14))) (l14 : K.lookup f14 = some ⟨oc14, od14, .func (PySem.W.fnOf "_law_is_integer" "_law_is_integer" (defArgs s_law_is_integer) (defBody s_law_is_integer) (defScope s_law_is_integer) .none kV14 dc14 pm14 an14 cd14 ct14), sl14⟩) (c14 : PySem.W.codeIn K cd14 "_law_is_integer" = true) (k14 : PySem.W.keepIn K (.ref f14) = true)
    (a15 : PySem.W.nsIn K mainGlobals "_law_is_word" = some (some (.ref f15))) (l15 : K.lookup f15 = some ⟨oc15, od15, .func (PySem.W.fnOf "_law_is_word" "_law_is_word" (defArgs s_law_is_word) (defBody s_law_is_word) (defScope s_law_is_word) .none kV15 dc15 pm15 an15 cd15 ct15), sl15⟩) (c15 : PySem.W.codeIn K cd15 "_law_is_word" = true) (k15 : PySem.W.keepIn K (.ref f15) = true)
    (a16 : PySem.W.nsIn K mainGlobals "_law_is_term" = some (some (.ref f16))) (l16 : K.lookup f16 = some ⟨oc16, od16, .func (PySem.W.fnOf "_law_is_term" "_law_is_term" (defArgs s_law_is_term) (defBody s_law_is_term) (defScope s_law_is_term) .none kV16 dc16 pm16 an16 cd16 ct16), sl16⟩) (c16 : PySem.W.codeIn K cd16 "_law_is_term" = true) (k16 : PySem.W.keepIn K (.ref f16) = true)
    (a17 : PySem.W.nsIn K mainGlobals "_law_odd" = some (some (.ref f17))) (l17 : K.lookup f17 = some ⟨oc17, od17, .func (PySem.W.fnOf "_law_odd" "_law_odd" (defArgs s_law_odd) (defBody s_law_odd) (defScope s_law_odd) .none kV17 dc17 pm17 an17 cd17 ct17), sl17⟩) (c17 : PySem.W.codeIn K cd17 "_law_odd" = true) (k17 : PySem.W.keepIn K (.ref f17) = true)
    (a18 : PySem.W.nsIn K mainGlobals "_law_spoiled" = some (some (.ref f18))) (l18 : K.lookup f18 = some ⟨oc18, od18, .func (PySem.W.fnOf "_law_spoiled" "_law_spoiled" (defArgs s_law_spoiled) (defBody s_law_spoiled) (defScope s_law_spoiled) .none kV18 dc18 pm18 an18 cd18 ct18), sl18⟩) (c18 : PySem.W.codeIn K cd18 "_law_spoiled" = true) (k18 : PySem.W.keepIn K (.ref f18) = true)
    (a19 : PySem.W.nsIn K mainGlobals "_law_deeper" = some (some (.ref f19))) (l19 : K.lookup f19 = some ⟨oc19, od19, .func (PySem.W.fnOf "_law_deeper" "_law_deeper" (defArgs s_law_deeper) (defBody s_law_deeper) (defScope s_law_deeper) .none kV19 dc19 pm19 an19 cd19 ct19), sl19⟩) (c19 : PySem.W.codeIn K cd19 "_law_deeper" = true) (k19 : PySem.W.keepIn K (.ref f19) = true)
    (a20 : PySem.W.nsIn K mainGlobals "_law_is_refused" = some (some (.ref f20))) (l20 : K.lookup f20 = some ⟨oc20, od20, .func (PySem.W.fnOf "_law_is_refused" "_law_is_refused" (defArgs s_law_is_refused) (defBody s_law_is_refused) (defScope s_law_is_refused) .none kV20 dc20 pm20 an20 cd20 ct20), sl20⟩) (c20 : PySem.W.codeIn K cd20 "_law_is_refused" = true) (k20 : PySem.W.keepIn K (.ref f20) = true)
    (a21 : PySem.W.nsIn K mainGlobals "_law_limits_hold" = some (some (.ref f21))) (l21 : K.lookup f21 = some ⟨oc21, od21, .func (PySem.W.fnOf "_law_limits_hold" "_law_limits_hold" (defArgs s_law_limits_hold) (defBody s_law_limits_hold) (defScope s_law_limits_hold) .none kV21 dc21 pm21 an21 cd21 ct21), sl21⟩) (c21 : PySem.W.codeIn K cd21 "_law_limits_hold" = true) (k21 : PySem.W.keepIn K (.ref f21) = true)
    (a22 : PySem.W.nsIn K mainGlobals "_law_cell_holds" = some (some (.ref f22))) (l22 : K.lookup f22 = some ⟨oc22, od22, .func (PySem.W.fnOf "_law_cell_holds" "_law_cell_holds" (defArgs s_law_cell_holds) (defBody s_law_cell_holds) (defScope s_law_cell_holds) .none kV22 dc22 pm22 an22 cd22 ct22), sl22⟩) (c22 : PySem.W.codeIn K cd22 "_law_cell_holds" = true) (k22 : PySem.W.keepIn K (.ref f22) = true)
    (a23 : PySem.W.nsIn K mainGlobals "law" = some (some (.ref f23))) (l23 : K.lookup f23 = some ⟨oc23, od23, .func (PySem.W.fnOf "law" "law" (defArgs s_law) (defBody s_law) (defScope s_law) .none kV23 dc23 pm23 an23 cd23 ct23), sl23⟩) (c23 : PySem.W.codeIn K cd23 "law" = true) (k23 : PySem.W.keepIn K (.ref f23) = true)
    (z_ValueError : PySem.W.nsIn K mainGlobals "ValueError" = some none)
    (z_abs : PySem.W.nsIn K mainGlobals "abs" = some none)
    (z_len : PySem.W.nsIn K mainGlobals "len" = some none)
    (z_max : PySem.W.nsIn K mainGlobals "max" = some none)
    (z_min : PySem.W.nsIn K mainGlobals "min" = some none)
    (z_divmod : PySem.W.nsIn K mainGlobals "divmod" = some none)
    (z_range : PySem.W.nsIn K mainGlobals "range" = some none)
    (z_list : PySem.W.nsIn K mainGlobals "list" = some none)
    (z_tuple : PySem.W.nsIn K mainGlobals "tuple" = some none)
    (z_dict : PySem.W.nsIn K mainGlobals "dict" = some none)
    (z_str : PySem.W.nsIn K mainGlobals "str" = some none)
    (z_int : PySem.W.nsIn K mainGlobals "int" = some none)
    (z_bool : PySem.W.nsIn K mainGlobals "bool" = some none)
    (z_isinstance : PySem.W.nsIn K mainGlobals "isinstance" = some none)
    (z_repr : PySem.W.nsIn K mainGlobals "repr" = some none)
    (z_all : PySem.W.nsIn K mainGlobals "all" = some none)
    (z_any : PySem.W.nsIn K mainGlobals "any" = some none)
    (z_sum : PySem.W.nsIn K mainGlobals "sum" = some none)
    (z_sorted : PySem.W.nsIn K mainGlobals "sorted" = some none)
    (z_enumerate : PySem.W.nsIn K mainGlobals "enumerate" = some none)
    (z_zip : PySem.W.nsIn K mainGlobals "zip" = some none)
    (z_reversed : PySem.W.nsIn K mainGlobals "reversed" = some none)
    (q0 : PySem.W.nsIn K mainGlobals "LIMIT" = some (some u0)) (r0 : RelV (.int LIM) u0)
    (q1 : PySem.W.nsIn K mainGlobals "MOST_LETTERS" = some (some u1)) (r1 : RelV (.int 8) u1)
    (q2 : PySem.W.nsIn K mainGlobals "MOST_LEVELS" = some (some u2)) (r2 : RelV (.int 6) u2)
    (q3 : PySem.W.nsIn K mainGlobals "OPERATORS" = some (some u3)) (r3 : RelV (.ref aO) u3)
    (q4 : PySem.W.nsIn K mainGlobals "RESULTS" = some (some u4)) (r4 : RelV (.ref aR) u4)
    (q5 : PySem.W.nsIn K mainGlobals "LETTERS" = some (some u5)) (r5 : RelV (.str LETS) u5)
    (q6 : PySem.W.nsIn K mainGlobals "InvalidLimit" = some (some u6)) (r6 : RelV (.ref Cl) u6)
    (q7 : PySem.W.nsIn K mainGlobals "InvalidProgram" = some (some u7)) (r7 : RelV (.ref Cp) u7)
    (q8 : PySem.W.nsIn K mainGlobals "SamepointError" = some (some u8)) (r8 : RelV (.ref Cs) u8)
    (tO : K.lookup aO = some ⟨.type "tuple", odO, .seq itO nO, slO⟩)
    (tv : Vals (OPS.map V.str) itO.toList)
    (sM : K.lookup sysModules = none)
    (x1 : PySem.W.nsIn K mainGlobals "InvalidExpression" = some (some (.ref Ce)))
    (x2 : PySem.W.excIn K Ce [.type "ValueError", .type "Exception", .type "BaseException", .type "object"] "ValueError.__new__" = true)
    (x3 : PySem.W.keepIn K (.ref Ce) = true)
    (x4 : PySem.W.subIn K (.ref Ce) (.type "BaseException") = some true)
    (x5 : PySem.W.typeIn K (.ref Ce) = some (.type "type"))
    (y1 : PySem.W.findIn K (.ref Ce) "__getattribute__" = some (some (.builtin "BaseException.__getattribute__")))
    (y2 : PySem.W.findIn K (.ref Ce) "__getattr__" = some none)
    (y4 : PySem.W.hasDictIn K Ce = true)
    (y5 : PySem.W.findIn K (.ref Ce) "__class__" = some (some (.builtin "object.__class__")))
    (y6 : PySem.W.specialIn K (.builtin "object.__class__") "__get__" = some (some (.builtin "getset_descriptor.__get__")))
    (y7 : PySem.W.takesIn K (.builtin "object.__class__") = some true)
    (y8 : PySem.W.mroIn K Ce (.type "object") = some true)
    (w1 : PySem.W.subIn K (.ref Ce) (.ref Ce) = some true)
    (w2 : PySem.W.subIn K (.ref Ce) (.ref Cl) = some false)
    (w3 : PySem.W.subIn K (.ref Ce) (.ref Cp) = some false)
    (w4 : PySem.W.subIn K (.ref Ce) (.ref Cs) = some true)
    (w5 : PySem.W.subIn K (.ref Ce) (.type "ValueError") = some true)
    (v1 : PySem.W.hasDictIn K Cl = true)
    (v2 : PySem.W.typeIn K (.ref Cl) = some (.type "type"))
    (v3 : PySem.W.hasDictIn K Cp = true)
    (v4 : PySem.W.typeIn K (.ref Cp) = some (.type "type"))
    (v5 : PySem.W.hasDictIn K Cs = true)
    (v6 : PySem.W.typeIn K (.ref Cs) = some (.type "type"))
    : ∃ fd : FuncData, (∀ (s : Shared) (v : Value), BindsTo s fd ⟨[v], []⟩ [("_law_script", v)]) ∧ ∀ base : Heap, K.In base → base.Ns mainGlobals mg → SP.FnG l.prog w K mg base CX0 21 fa fd ["_law_script"] (spLaw K) := by
  have e := hfa.symm.trans (PySem.W.mg_of X G a23)
  cases e
  have F_is_integer := fun_mk (st := s_is_integer) l0 c0 k0
  have m_is_integer := PySem.W.mg_of X G a0
  have b_is_integer := F_is_integer.binds (ps := ["value"]) fun _ _ _ _ _ _ us hl => match us, hl with | [_], _ => rfl
  have F_is_value := fun_mk (st := s_is_value) l1 c1 k1
  have m_is_value := PySem.W.mg_of X G a1
  have b_is_value := F_is_value.binds (ps := ["value"]) fun _ _ _ _ _ _ us hl => match us, hl with | [_], _ => rfl
  have F_is_name := fun_mk (st := s_is_name) l2 c2 k2
  have m_is_name := PySem.W.mg_of X G a2
  have b_is_name := F_is_name.binds (ps := ["value"]) fun _ _ _ _ _ _ us hl => match us, hl with | [_], _ => rfl
  have F_limited := fun_mk (st := s_limited) l3 c3 k3
  have m_limited := PySem.W.mg_of X G a3
  have b_limited := F_limited.binds (ps := ["number"]) fun _ _ _ _ _ _ us hl => match us, hl with | [_], _ => rfl
  have F_is_nested := fun_mk (st := s_is_nested) l4 c4 k4
  have m_is_nested := PySem.W.mg_of X G a4
  have b_is_nested := F_is_nested.binds (ps := ["value", "levels"]) fun _ _ _ _ _ _ us hl => match us, hl with | [_, _], _ => rfl
  have F_is_expression := fun_mk (st := s_is_expression) l5 c5 k5
  have m_is_expression := PySem.W.mg_of X G a5
  have b_is_expression := F_is_expression.binds (ps := ["value"]) fun _ _ _ _ _ _ us hl => match us, hl with | [_], _ => rfl
  have F_evaluate := fun_mk (st := s_evaluate) l6 c6 k6
  have m_evaluate := PySem.W.mg_of X G a6
  have b_evaluate := F_evaluate.binds (ps := ["expression", "variables"]) fun _ _ _ _ _ _ us hl => match us, hl with | [_, _], _ => rfl
  have F_law_source := fun_mk (st := s_law_source) l7 c7 k7
  have m_law_source := PySem.W.mg_of X G a7
  have b_law_source := F_law_source.binds (ps := ["_law_script", "_law_place"]) fun _ _ _ _ _ _ us hl => match us, hl with | [_, _], _ => rfl
  have F_law_draw := fun_mk (st := s_law_draw) l8 c8 k8
  have m_law_draw := PySem.W.mg_of X G a8
  have b_law_draw := F_law_draw.binds (ps := ["_law_source_here", "_law_many"]) fun _ _ _ _ _ _ us hl => match us, hl with | [_, _], _ => rfl
  have F_law_choose := fun_mk (st := s_law_choose) l9 c9 k9
  have m_law_choose := PySem.W.mg_of X G a9
  have b_law_choose := F_law_choose.binds (ps := ["_law_source_here", "_law_items"]) fun _ _ _ _ _ _ us hl => match us, hl with | [_, _], _ => rfl
  have F_law_new_word := fun_mk (st := s_law_new_word) l10 c10 k10
  have m_law_new_word := PySem.W.mg_of X G a10
  have b_law_new_word := F_law_new_word.binds (ps := ["_law_source_here", "_law_used"]) fun _ _ _ _ _ _ us hl => match us, hl with | [_, _], _ => rfl
  have F_law_new_words := fun_mk (st := s_law_new_words) l11 c11 k11
  have m_law_new_words := PySem.W.mg_of X G a11
  have b_law_new_words := F_law_new_words.binds (ps := ["_law_source_here", "_law_many", "_law_used"]) fun _ _ _ _ _ _ us hl => match us, hl with | [_, _, _], _ => rfl
  have F_law_value := fun_mk (st := s_law_value) l12 c12 k12
  have m_law_value := PySem.W.mg_of X G a12
  have b_law_value := F_law_value.binds (ps := ["_law_source_here"]) fun _ _ _ _ _ _ us hl => match us, hl with | [_], _ => rfl
  have F_law_expression := fun_mk (st := s_law_expression) l13 c13 k13
  have m_law_expression := PySem.W.mg_of X G a13
  have b_law_expression := F_law_expression.binds (ps := ["_law_source_here", "_law_names", "_law_levels"]) fun _ _ _ _ _ _ us hl => match us, hl with | [_, _, _], _ => rfl
  have F_law_is_integer := fun_mk (st := s_law_is_integer) l14 c14 k14
  have m_law_is_integer := PySem.W.mg_of X G a14
  have b_law_is_integer := F_law_is_integer.binds (ps := ["_law_item", "_law_low", "_law_high"]) fun _ _ _ _ _ _ us hl => match us, hl with | [_, _, _], _ => rfl
  have F_law_is_word := fun_mk (st := s_law_is_word) l15 c15 k15
  have m_law_is_word := PySem.W.mg_of X G a15
  have b_law_is_word := F_law_is_word.binds (ps := ["_law_item"]) fun _ _ _ _ _ _ us hl => match us, hl with | [_], _ => rfl
  have F_law_is_term := fun_mk (st := s_law_is_term) l16 c16 k16
  have m_law_is_term := PySem.W.mg_of X G a16
  have b_law_is_term := F_law_is_term.binds (ps := ["_law_item", "_law_levels"]) fun _ _ _ _ _ _ us hl => match us, hl with | [_, _], _ => rfl
  have F_law_odd := fun_mk (st := s_law_odd) l17 c17 k17
  have m_law_odd := PySem.W.mg_of X G a17
  have b_law_odd := F_law_odd.binds (ps := ["_law_source_here"]) fun _ _ _ _ _ _ us hl => match us, hl with | [_], _ => rfl
  have F_law_spoiled := fun_mk (st := s_law_spoiled) l18 c18 k18
  have m_law_spoiled := PySem.W.mg_of X G a18
  have b_law_spoiled := F_law_spoiled.binds (ps := ["_law_source_here", "_law_term"]) fun _ _ _ _ _ _ us hl => match us, hl with | [_, _], _ => rfl
  have F_law_deeper := fun_mk (st := s_law_deeper) l19 c19 k19
  have m_law_deeper := PySem.W.mg_of X G a19
  have b_law_deeper := F_law_deeper.binds (ps := ["_law_source_here", "_law_term"]) fun _ _ _ _ _ _ us hl => match us, hl with | [_, _], _ => rfl
  have F_law_is_refused := fun_mk (st := s_law_is_refused) l20 c20 k20
  have m_law_is_refused := PySem.W.mg_of X G a20
  have b_law_is_refused := F_law_is_refused.binds (ps := ["_law_term", "_law_known"]) fun _ _ _ _ _ _ us hl => match us, hl with | [_, _], _ => rfl
  have F_law_limits_hold := fun_mk (st := s_law_limits_hold) l21 c21 k21
  have m_law_limits_hold := PySem.W.mg_of X G a21
  have b_law_limits_hold := F_law_limits_hold.binds (ps := ["_law_source_here"]) fun _ _ _ _ _ _ us hl => match us, hl with | [_], _ => rfl
  have F_law_cell_holds := fun_mk (st := s_law_cell_holds) l22 c22 k22
  have m_law_cell_holds := PySem.W.mg_of X G a22
  have b_law_cell_holds := F_law_cell_holds.binds (ps := ["_law_source_here"]) fun _ _ _ _ _ _ us hl => match us, hl with | [_], _ => rfl
  have F_law := fun_mk (st := s_law) l23 c23 k23
  have m_law := PySem.W.mg_of X G a23
  have n_ValueError := PySem.W.mg_none_of X G z_ValueError
  have n_abs := PySem.W.mg_none_of X G z_abs
  have n_len := PySem.W.mg_none_of X G z_len
  have n_max := PySem.W.mg_none_of X G z_max
  have n_min := PySem.W.mg_none_of X G z_min
  have n_divmod := PySem.W.mg_none_of X G z_divmod
  have n_range := PySem.W.mg_none_of X G z_range
  have n_list := PySem.W.mg_none_of X G z_list
  have n_tuple := PySem.W.mg_none_of X G z_tuple
  have n_dict := PySem.W.mg_none_of X G z_dict
  have n_str := PySem.W.mg_none_of X G z_str
  have n_int := PySem.W.mg_none_of X G z_int
  have n_bool := PySem.W.mg_none_of X G z_bool
  have n_isinstance := PySem.W.mg_none_of X G z_isinstance
  have n_repr := PySem.W.mg_none_of X G z_repr
  have n_all := PySem.W.mg_none_of X G z_all
  have n_any := PySem.W.mg_none_of X G z_any
  have n_sum := PySem.W.mg_none_of X G z_sum
  have n_sorted := PySem.W.mg_none_of X G z_sorted
  have n_enumerate := PySem.W.mg_none_of X G z_enumerate
  have n_zip := PySem.W.mg_none_of X G z_zip
  have n_reversed := PySem.W.mg_none_of X G z_reversed
  have g_LIMIT : ∃ u, mg "LIMIT" = some u ∧ RelV (.int LIM) u := ⟨u0, PySem.W.mg_of X G q0, r0⟩
  have g_MOST_LETTERS : ∃ u, mg "MOST_LETTERS" = some u ∧ RelV (.int 8) u := ⟨u1, PySem.W.mg_of X G q1, r1⟩
  have g_MOST_LEVELS : ∃ u, mg "MOST_LEVELS" = some u ∧ RelV (.int 6) u := ⟨u2, PySem.W.mg_of X G q2, r2⟩
  have g_OPERATORS : ∃ u, mg "OPERATORS" = some u ∧ RelV (.ref aO) u := ⟨u3, PySem.W.mg_of X G q3, r3⟩
  have g_RESULTS : ∃ u, mg "RESULTS" = some u ∧ RelV (.ref aR) u := ⟨u4, PySem.W.mg_of X G q4, r4⟩
  have g_LETTERS : ∃ u, mg "LETTERS" = some u ∧ RelV (.str LETS) u := ⟨u5, PySem.W.mg_of X G q5, r5⟩
  have g_InvalidLimit : ∃ u, mg "InvalidLimit" = some u ∧ RelV (.ref Cl) u := ⟨u6, PySem.W.mg_of X G q6, r6⟩
  have g_InvalidProgram : ∃ u, mg "InvalidProgram" = some u ∧ RelV (.ref Cp) u := ⟨u7, PySem.W.mg_of X G q7, r7⟩
  have g_SamepointError : ∃ u, mg "SamepointError" = some u ∧ RelV (.ref Cs) u := ⟨u8, PySem.W.mg_of X G q8, r8⟩
  refine ⟨PySem.W.fnOf "law" "law" (defArgs s_law) (defBody s_law) (defScope s_law) .none kV23 dc23 pm23 an23 cd23 ct23, fun s v => .of_eq rfl, fun base _ _ => ?_⟩
  have T : Txt K mg aO aR := ⟨n_isinstance, n_int, n_bool, n_str, n_tuple, n_len, n_all, n_max, n_min, g_LIMIT, g_MOST_LETTERS, g_MOST_LEVELS, g_OPERATORS, g_RESULTS, fun H => .inr ⟨_, itO, _, tO, rfl, rfl, Nat.le_trans (Nat.le_of_eq (show itO.size = 7 from tv.length.symm)) (by decide), tv⟩, g_LETTERS⟩
  have B : SP.Blt mg := ⟨n_abs, n_len, n_max, n_min, n_divmod, n_range, n_list, n_tuple, n_dict, n_str, n_int, n_bool, n_isinstance, n_repr, n_all, n_any, n_sum, n_sorted, n_enumerate, n_zip, n_reversed⟩
  have TE : TxtE K mg Ce Cl Cp Cs := ⟨B, n_ValueError, ⟨x2, PySem.W.mg_of X G x1, x3, x4, x5⟩, ⟨y1, y2, x4, y4, y5, y6, y7, y8⟩, PySem.W.exm_ref x4 y4 x5 w1, g_InvalidLimit, g_InvalidProgram, g_SamepointError, kit_no2 (kit_own v1 v2 w2 w1) (kit_own v3 v4 w3 w1), kit_own v5 v6 w4 w1, kit_base (by decide +kernel) w5⟩
  have D_is_integer : SP.Df l.prog w K mg base CX0 1 "is_integer" ["value"] (SP.spT K isInt) := ⟨_, _, ok_is_integer F_is_integer T, m_is_integer, k0, b_is_integer⟩
  have D_is_value : SP.Df l.prog w K mg base CX0 2 "is_value" ["value"] (SP.spT K isVal) := ⟨_, _, ok_is_value F_is_value T D_is_integer, m_is_value, k1, b_is_value⟩
  have D_is_name : SP.Df l.prog w K mg base CX0 1 "is_name" ["value"] (SP.spT K isNm) := ⟨_, _, ok_is_name F_is_name T, m_is_name, k2, b_is_name⟩
  have D_limited : SP.Df l.prog w K mg base CX0 1 "limited" ["number"] (spI1 lim) := ⟨_, _, ok_limited F_limited T, m_limited, k3, b_limited⟩
  have R_is_nested : ∀ n : Nat, SP.FnG l.prog w K mg base CX0 (n + 3) f4 (PySem.W.fnOf "is_nested" "is_nested" (defArgs s_is_nested) (defBody s_is_nested) (defScope s_is_nested) .none kV4 dc4 pm4 an4 cd4 ct4) ["value", "levels"] (spNest K n) := by
    intro n
    induction n with
    | zero => exact SP.FnG.void (fun vs H Q E h => by obtain ⟨v, d, G, _, h1, _⟩ := h; omega)
    | succ n ih => exact ok_is_nested F_is_nested T D_is_value D_is_name ⟨_, _, ih, m_is_nested, k4, b_is_nested⟩
  have D_is_nested : SP.Df l.prog w K mg base CX0 9 "is_nested" ["value", "levels"] (spNest K 6) := ⟨_, _, R_is_nested 6, m_is_nested, k4, b_is_nested⟩
  have D_is_expression : SP.Df l.prog w K mg base CX0 10 "is_expression" ["value"] (SP.spT K (nested 6)) := ⟨_, _, ok_is_expression F_is_expression T D_is_nested, m_is_expression, k5, b_is_expression⟩
  have D_evaluate : SP.Df l.prog w K mg base (L2.CX l.prog w) 11 "evaluate" ["expression", "variables"] (spEvalX K Ce) := ⟨_, _, ok_evaluate F_evaluate TE D_is_expression, m_evaluate, k6, b_evaluate⟩
  have D_law_is_refused : SP.Df l.prog w K mg base CX0 12 "_law_is_refused" ["_law_term", "_law_known"] (spRef K) := ⟨_, _, ok_is_refused F_law_is_refused TE D_evaluate, m_law_is_refused, k20, b_law_is_refused⟩
  have D_law_source : SP.Df l.prog w K mg base CX0 1 "_law_source" ["_law_script", "_law_place"] (spSource K) := ⟨_, _, ok_source F_law_source B, m_law_source, k7, b_law_source⟩
  have D_law_draw : SP.Df l.prog w K mg base CX0 1 "_law_draw" ["_law_source_here", "_law_many"] (spDraw) := ⟨_, _, ok_draw F_law_draw B, m_law_draw, k8, b_law_draw⟩
  have D_law_choose : SP.Df l.prog w K mg base CX0 2 "_law_choose" ["_law_source_here", "_law_items"] (spChoose K) := ⟨_, _, ok_choose F_law_choose B D_law_draw, m_law_choose, k9, b_law_choose⟩
  have D_law_new_word : SP.Df l.prog w K mg base CX0 3 "_law_new_word" ["_law_source_here", "_law_used"] (spWord K) := ⟨_, _, ok_new_word F_law_new_word B D_law_draw D_law_choose, m_law_new_word, k10, b_law_new_word⟩
  have D_law_new_words : SP.Df l.prog w K mg base CX0 4 "_law_new_words" ["_law_source_here", "_law_many", "_law_used"] (spWords K) := ⟨_, _, ok_new_words F_law_new_words B D_law_new_word, m_law_new_words, k11, b_law_new_words⟩
  have D_law_value : SP.Df l.prog w K mg base CX0 2 "_law_value" ["_law_source_here"] (spVal) := ⟨_, _, ok_value F_law_value B D_law_draw, m_law_value, k12, b_law_value⟩
  have R_law_expression : ∀ n : Nat, SP.FnG l.prog w K mg base CX0 (n + 3) f13 (PySem.W.fnOf "_law_expression" "_law_expression" (defArgs s_law_expression) (defBody s_law_expression) (defScope s_law_expression) .none kV13 dc13 pm13 an13 cd13 ct13) ["_law_source_here", "_law_names", "_law_levels"] (spTerm K n) := by
    intro n
    induction n with
    | zero => exact SP.FnG.void (fun vs H Q E h => by obtain ⟨p, u, us, G, _, _, _, _, _, _, h1, _⟩ := h; omega)
    | succ n ih => exact ok_expr F_law_expression B D_law_draw D_law_value D_law_choose ⟨_, _, ih, m_law_expression, k13, b_law_expression⟩
  have D_law_expression : SP.Df l.prog w K mg base CX0 7 "_law_expression" ["_law_source_here", "_law_names", "_law_levels"] (spTerm K 4) := ⟨_, _, R_law_expression 4, m_law_expression, k13, b_law_expression⟩
  have D_law_is_integer : SP.Df l.prog w K mg base CX0 1 "_law_is_integer" ["_law_item", "_law_low", "_law_high"] (spInt K) := ⟨_, _, ok_law_integer F_law_is_integer B, m_law_is_integer, k14, b_law_is_integer⟩
  have D_law_is_word : SP.Df l.prog w K mg base CX0 1 "_law_is_word" ["_law_item"] (spWd K) := ⟨_, _, ok_law_word F_law_is_word B, m_law_is_word, k15, b_law_is_word⟩
  have R_law_is_term : ∀ n : Nat, SP.FnG l.prog w K mg base CX0 (n + 2) f16 (PySem.W.fnOf "_law_is_term" "_law_is_term" (defArgs s_law_is_term) (defBody s_law_is_term) (defScope s_law_is_term) .none kV16 dc16 pm16 an16 cd16 ct16) ["_law_item", "_law_levels"] (spTm K n) := by
    intro n
    induction n with
    | zero => exact SP.FnG.void (fun vs H Q E h => by obtain ⟨v, d, G, _, h1, _⟩ := h; omega)
    | succ n ih => exact ok_law_term F_law_is_term B D_law_is_integer D_law_is_word ⟨_, _, ih, m_law_is_term, k16, b_law_is_term⟩
  have D_law_is_term : SP.Df l.prog w K mg base CX0 8 "_law_is_term" ["_law_item", "_law_levels"] (spTm K 6) := ⟨_, _, R_law_is_term 6, m_law_is_term, k16, b_law_is_term⟩
  have D_law_odd : SP.Df l.prog w K mg base CX0 3 "_law_odd" ["_law_source_here"] (spOdd K) := ⟨_, _, ok_odd F_law_odd B D_law_choose, m_law_odd, k17, b_law_odd⟩
  have R_law_spoiled : ∀ n : Nat, SP.FnG l.prog w K mg base CX0 (n + 4) f18 (PySem.W.fnOf "_law_spoiled" "_law_spoiled" (defArgs s_law_spoiled) (defBody s_law_spoiled) (defScope s_law_spoiled) .none kV18 dc18 pm18 an18 cd18 ct18) ["_law_source_here", "_law_term"] (spSpo K n) := by
    intro n
    induction n with
    | zero => exact SP.FnG.void (fun vs H Q E h => by obtain ⟨p, v, d, G, _, _, _, _, h1, _⟩ := h; cases h1)
    | succ n ih => exact ok_spoiled F_law_spoiled B D_law_draw D_law_odd ⟨_, _, ih, m_law_spoiled, k18, b_law_spoiled⟩
  have D_law_spoiled : SP.Df l.prog w K mg base CX0 13 "_law_spoiled" ["_law_source_here", "_law_term"] (spSpo K 9) := ⟨_, _, R_law_spoiled 9, m_law_spoiled, k18, b_law_spoiled⟩
  have D_law_deeper : SP.Df l.prog w K mg base CX0 3 "_law_deeper" ["_law_source_here", "_law_term"] (spDeep K) := ⟨_, _, ok_deeper F_law_deeper B D_law_draw D_law_choose D_law_value, m_law_deeper, k19, b_law_deeper⟩
  have D_law_limits_hold : SP.Df l.prog w K mg base CX0 3 "_law_limits_hold" ["_law_source_here"] (spCell) := ⟨_, _, ok_limits F_law_limits_hold B D_law_draw D_law_value D_limited, m_law_limits_hold, k21, b_law_limits_hold⟩
  have D_law_cell_holds : SP.Df l.prog w K mg base CX0 20 "_law_cell_holds" ["_law_source_here"] (spCell) := ⟨_, _, ok_cell F_law_cell_holds B D_law_new_words D_law_value D_law_draw D_law_expression D_law_deeper D_law_spoiled D_law_is_term D_is_expression D_law_is_refused D_law_limits_hold, m_law_cell_holds, k22, b_law_cell_holds⟩
  exact ok_law F_law (aO := aO) ⟨g_LIMIT, g_MOST_LEVELS, g_OPERATORS, T.t_ops, n_all, n_len, n_max, n_min, n_range, n_repr⟩ D_law_source D_law_cell_holds
end K11
open PySem PySem.W PyProof.Rows
set_option maxRecDepth 100000 in
set_option maxHeartbeats 0 in
theorem PySem.Challenge.cw_samepoint_k11_expressions_judged_holds : PySem.Challenge.rw_samepoint_k11_expressions_judged.Holds := by
  w_on; o_law; k_head; (case hw => w_witness2)
  k_fill
  refine SP.walkG (l := PySem.Challenge.rw_samepoint_k11_expressions_judged) (n := 63) (k := 21) (x := "_law_script") (CX := fun _ => L2.CX0) (sp := fun w => K11.spLaw _) rfl (by decide) rfl ⟨rfl, by decide, by decide⟩ (fun w h Y => PySem.W.kIn_of Y) ?F (fun w H a ns hl _ hS => ⟨a, ns, rfl, hS, by omega, fun _ => rfl⟩) fun _ _ _ _ _ z => z
  case F =>
    intro w mg fa h KX G hmg
    refine' K11.all_mk KX G hmg ?a0 ?l0 ?c0 ?k0 ?a1 ?l1 ?c1 ?k1 ?a2 ?l2 ?c2 ?k2 ?a3 ?l3 ?c3 ?k3 ?a4 ?l4 ?c4 ?k4 ?a5 ?l5 ?c5 ?k5 ?a6 ?l6 ?c6 ?k6 ?a7 ?l7 ?c7 ?k7 ?a8 ?l8 ?c8 ?k8 ?a9 ?l9 ?c9 ?k9 ?a10 ?l10 ?c10 ?k10 ?a11 ?l11 ?c11 ?k11 ?a12 ?l12 ?c12 ?k12 ?a13 ?l13 ?c13 ?k13 ?a14 ?l14 ?c14 ?k14 ?a15 ?l15 ?c15 ?k15 ?a16 ?l16 ?c16 ?k16 ?a17 ?l17 ?c17 ?k17 ?a18 ?l18 ?c18 ?k18 ?a19 ?l19 ?c19 ?k19 ?a20 ?l20 ?c20 ?k20 ?a21 ?l21 ?c21 ?k21 ?a22 ?l22 ?c22 ?k22 ?a23 ?l23 ?c23 ?k23 ?z_ValueError ?z_abs ?z_len ?z_max ?z_min ?z_divmod ?z_range ?z_list ?z_tuple ?z_dict ?z_str ?z_int ?z_bool ?z_isinstance ?z_repr ?z_all ?z_any ?z_sum ?z_sorted ?z_enumerate ?z_zip ?z_reversed ?q0 ?r0 ?q1 ?r1 ?q2 ?r2 ?q3 ?r3 ?q4 ?r4 ?q5 ?r5 ?q6 ?r6 ?q7 ?r7 ?q8 ?r8 ?tO ?tv ?sM ?x1 ?x2 ?x3 ?x4 ?x5 ?y1 ?y2 ?y4 ?y5 ?y6 ?y7 ?y8 ?w1 ?w2 ?w3 ?w4 ?w5 ?v1 ?v2 ?v3 ?v4 ?v5 ?v6
    (case a0 => k_is)
    (case l0 => k_is)
    (case c0 => k_is)
    (case k0 => k_is)
    (case a1 => k_is)
    (case l1 => k_is)
    (case c1 => k_is)
    (case k1 => k_is)
    (case a2 => k_is)
    (case l2 => k_is)
    (case c2 => k_is)
    (case k2 => k_is)
    (case a3 => k_is)
    (case l3 => k_is)
    (case c3 => k_is)
    (case k3 => k_is)
    (case a4 => k_is)
    (case l4 => k_is)
    (case c4 => k_is)
    (case k4 => k_is)
    (case a5 => k_is)
    (case l5 => k_is)
    (case c5 => k_is)
    (case k5 => k_is)
    (case a6 => k_is)
    (case l6 => k_is)
    (case c6 => k_is)
    (case k6 => k_is)
    (case a7 => k_is)
    (case l7 => k_is)
    (case c7 => k_is)
    (case k7 => k_is)
    (case a8 => k_is)
    (case l8 => k_is)
    (case c8 => k_is)
    (case k8 => k_is)
    (case a9 => k_is)
    (case l9 => k_is)
    (case c9 => k_is)
    (case k9 => k_is)
    (case a10 => k_is)
    (case l10 => k_is)
    (case c10 => k_is)
    (case k10 => k_is)
    (case a11 => k_is)
    (case l11 => k_is)
    (case c11 => k_is)
    (case k11 => k_is)
    (case a12 => k_is)
    (case l12 => k_is)
    (case c12 => k_is)
    (case k12 => k_is)
    (case a13 => k_is)
    (case l13 => k_is)
    (case c13 => k_is)
    (case k13 => k_is)
    (case a14 => k_is)
    (case l14 => k_is)
    (case c14 => k_is)
    (case k14 => k_is)
    (case a15 => k_is)
    (case l15 => k_is)
    (case c15 => k_is)
    (case k15 => k_is)
    (case a16 => k_is)
    (case l16 => k_is)
    (case c16 => k_is)
    (case k16 => k_is)
    (case a17 => k_is)
    (case l17 => k_is)
    (case c17 => k_is)
    (case k17 => k_is)
    (case a18 => k_is)
    (case l18 => k_is)
    (case c18 => k_is)
    (case k18 => k_is)
    (case a19 => k_is)
    (case l19 => k_is)
    (case c19 => k_is)
    (case k19 => k_is)
    (case a20 => k_is)
    (case l20 => k_is)
    (case c20 => k_is)
    (case k20 => k_is)
    (case a21 => k_is)
    (case l21 => k_is)
    (case c21 => k_is)
    (case k21 => k_is)
    (case a22 => k_is)
    (case l22 => k_is)
    (case c22 => k_is)
    (case k22 => k_is)
    (case a23 => k_is)
    (case l23 => k_is)
    (case c23 => k_is)
    (case k23 => k_is)
    (case z_ValueError => k_is)
    (case z_abs => k_is)
    (case z_len => k_is)
    (case z_max => k_is)
    (case z_min => k_is)
    (case z_divmod => k_is)
    (case z_range => k_is)
    (case z_list => k_is)
    (case z_tuple => k_is)
    (case z_dict => k_is)
    (case z_str => k_is)
    (case z_int => k_is)
    (case z_bool => k_is)
    (case z_isinstance => k_is)
    (case z_repr => k_is)
    (case z_all => k_is)
    (case z_any => k_is)
    (case z_sum => k_is)
    (case z_sorted => k_is)
    (case z_enumerate => k_is)
    (case z_zip => k_is)
    (case z_reversed => k_is)
    (case q0 => k_is)
    (case r0 => exact ⟨_, rfl⟩)
    (case q1 => k_is)
    (case r1 => exact ⟨_, rfl⟩)
    (case q2 => k_is)
    (case r2 => exact ⟨_, rfl⟩)
    (case q3 => k_is)
    (case r3 => exact rfl)
    (case q4 => k_is)
    (case r4 => exact rfl)
    (case q5 => k_is)
    (case r5 => exact ⟨_, rfl⟩)
    (case q6 => k_is)
    (case r6 => exact rfl)
    (case q7 => k_is)
    (case r7 => exact rfl)
    (case q8 => k_is)
    (case r8 => exact rfl)
    (case tO => k_is)
    (case tv => exact .cons ⟨_, rfl⟩ (.cons ⟨_, rfl⟩ (.cons ⟨_, rfl⟩ (.cons ⟨_, rfl⟩ (.cons ⟨_, rfl⟩ (.cons ⟨_, rfl⟩ (.cons ⟨_, rfl⟩ .nil)))))))
    (case sM => first | exact rfl | decide +kernel)
    (case x1 => k_is)
    (case x2 => k_exc)
    (case x3 => k_is)
    (case x4 => k_is)
    (case x5 => k_is)
    (case y1 => k_is)
    (case y2 => k_is)
    (case y4 => k_is)
    (case y5 => k_is)
    (case y6 => k_is)
    (case y7 => k_is)
    (case y8 => k_is)
    (case w1 => k_is)
    (case w2 => k_is)
    (case w3 => k_is)
    (case w4 => k_is)
    (case w5 => k_is)
    (case v1 => k_is)
    (case v2 => k_is)
    (case v3 => k_is)
    (case v4 => k_is)
    (case v5 => k_is)
    (case v6 => k_is)
