import PyProof.Rows.All
import Wide.All
import OpenK.AllK
import Wide.FinOn
import PyProof.EqAt
import PyProof.EqKinds
import PyProof.TupleCall
import HandS.ForMost
import HandS.ForExc
import HandS.Defaults
import HandS.MakeKwOnly
import HandS.WideBits
import HandS.IsInst
import HandS.Flow
import HandS.Style
import HandS.Evl
import HandS.StrMore
import HandS.TupAny
import HandS.SortInts
import HandS.RaiseMore
import HandS.Zip
import HandS.Head0
import HandS.Head1
import HandS.Head2
import HandS.HeadEnd
import HandS.HeadHook1
import HandS.HeadHook2
import HandS.Walk
import PyProof.Rows.StrJoinRep
import PyProof.StrLawsLast
import HandS.Codes
import HandS.ExcIs
import KE.KTryMore
import PySem.Challenge.RW_shortgoings_k14_texts_of_no_moment
set_option Elab.async false
set_option linter.all false
set_option maxRecDepth 100000
set_option maxHeartbeats 4000000
namespace L3
open PySem PySem.Spec PyProof.Rows L2
/-! ### room, with the guards of repr told -/
structure Rm (k : Nat) (A : Around) : Prop where
  rm : Room k A
  gd : A.guards = some []
theorem Rm.mono {j k : Nat} {A : Around} (r : Rm k A) (h : j ≤ k) : Rm j A := ⟨r.rm.mono h, r.gd⟩
theorem Rm.deeper {k : Nat} {A : Around} (r : Rm (k + 1) A) (env : Env) : Rm k (A.deeper env) := ⟨r.rm.deeper env, r.gd⟩
theorem make_guards {A : Around} {C : Addr} {us : List Value} {kw : List (Str × Value)} : (A.under (.builtin "type.__call__" ⟨.ref C :: us, kw⟩)).guards = A.guards := by
  have e : Code.guards (.builtin "type.__call__" ⟨.ref C :: us, kw⟩) = [] := by
    first | rfl | simp [Code.guards, Code.isGuard, guardIds]
  show pushGuards (Code.guards (.builtin "type.__call__" ⟨.ref C :: us, kw⟩)) A.guards = A.guards
  rw [e]
  cases A.guards <;> rfl
theorem Rm.make {k : Nat} {A : Around} (r : Rm (k + 1) A) (C : Addr) (us : List Value) (kw : List (Str × Value)) : Rm k (A.under (.builtin "type.__call__" ⟨.ref C :: us, kw⟩)) :=
  ⟨r.rm.make C us kw, make_guards.trans r.gd⟩
/-! ### a def's body -/
structure Fb (P : Program) (w : World) (K : PySem.W.Frag) (mg : Str → Option Value) (base : Heap) (k : Nat) (f : Addr) (fd : FuncData) (ps : List Str) (sp : Sp) : Prop where
  len : ∀ vs H Q E, sp vs H Q E → vs.length = ps.length
  run : ∀ (A : Around) (outer : List Env) (s : Shared) (H : Hp) (args : Args) (us : List Value) (vs : List V) (Q : VK) (E : XK), Rm k A → Env0 P w K mg base A outer s H → BindsTo s fd args (ps.zip us) → Vals vs us → sp vs H Q E →
    codeAny (model P w) A (.call (.ref f) args) (CR (L2.CX P w) outer P w H s Q E) s
section
variable {P : Program} {w : World} {K : PySem.W.Frag} {mg : Str → Option Value} {base : Heap} {x qual : Str} {params : Arguments} {body : List Stmt} {scope : Scope} {dvs : List V} {kws : List (Str × V)} {f : Addr} {fd : FuncData} {k : Nat} {ps N : List Str} {sp : Sp}
theorem fb_of (F : FunD K x qual params body scope dvs kws f fd) (S : FnScope N ps scope) (len : ∀ vs H Q E, sp vs H Q E → vs.length = ps.length)
    (hbody : ∀ (cdv : Value) (A : Around) (outer : List Env) (s : Shared) (H : Hp) (vs : List V) (Q : VK) (E : XK), Rm k (A.deeper (envOfC qual scope s.heap.objs.size f cdv)) → sp vs H Q E →
      ∃ t, PSs (cxOf (L2.CX P w) P w K mg base N qual scope f cdv A outer s H E) body t ∧ t { nx := fun _ H' => Q .non H', rt := Q } (start N vs) H) : Fb P w K mg base (k + 1) f fd ps sp := by
  obtain ⟨oc, od, dV, kV, doc, pm, an, cdv, ct, osl, rfl, lk, hcd, _, _⟩ := F.ex
  refine ⟨len, fun A outer s H args us vs Q E hr e0 hb r hsp => ?_⟩
  have hl := len _ _ _ _ hsp
  have KX : K.In s.heap := e0.mod.kin.keeps fun b o e => (e0.bs b o e).1
  have lim : s.heap.NoLimit := e0.mod.nolimit.keeps fun b o e => (e0.bs b o e).1
  have hkind : ∀ y ∈ ps.zip us, scope.names.lookup y.1 = some .local ∨ (scope.names.lookup y.1 = some .cell ∧ ((cellsFrom (s.heap.objs.size + 1) scope.names []).lookup y.1).isSome = true) := fun ⟨n, v⟩ hy => by
    rcases S.par n (List.of_mem_zip hy).1 with q | q
    · exact .inl q
    · exact .inr ⟨q, PySem.W.cellsFrom_some _ _ _ (.inl q)⟩
  refine codeAny_call_function hr.rm.depth (KX _ _ lk) rfl S.co S.gen rfl (PySem.W.codeRec_of KX hcd) (hb _ _ _ _ ?_)
  refine wpAny_newFunctionEnv_cells S.kind hkind fun env he s1 x => ?_
  subst he
  refine ⟨lim.keeps x.toInCall.keep, codeAny_func ?_⟩
  obtain ⟨t, ht, hq⟩ := hbody cdv A outer s H vs Q E (hr.deeper _) hsp
  have I : Inv (cxOf (L2.CX P w) P w K mg base N qual scope f cdv A outer s H E) [] (start N vs) H s1 := inv_start S hr.rm.hd e0 hl r x
  refine wpAny_mono (ht.run [] s1 (start N vs) H _ I hq) (fun fl s' hs => ?_) fun e s' hs => hs
  have fin : ∀ {σ' : L2.St} {H' : Hp} {v : V} {u : Value}, Inv (cxOf (L2.CX P w) P w K mg base N qual scope f cdv A outer s H E) [] σ' H' s' → RelV v u → Q v H' → CE outer P w H s Q u s' :=
    fun {σ' H' v u} J rv q => ⟨v, H', J.os, J.bare, J.base, J.hok, rv, q⟩
  cases fl with
  | ret u =>
    obtain ⟨v, σ', H', J, rv, q⟩ := hs
    exact fin J rv q
  | next =>
    obtain ⟨σ', H', J, q⟩ := hs
    exact fin (v := V.non) (u := Value.none) J rfl q
  | brk =>
    obtain ⟨_, _, _, q⟩ := hs
    exact False.elim q
  | cont =>
    obtain ⟨_, _, _, q⟩ := hs
    exact False.elim q
theorem Fb.mono {j : Nat} (F : Fb P w K mg base j f fd ps sp) (h : j ≤ k) : Fb P w K mg base k f fd ps sp := ⟨F.len, fun A outer s H args us vs Q E hr => F.run A outer s H args us vs Q E (hr.mono h)⟩
theorem Fb.imp {sp' : Sp} (F : Fb P w K mg base k f fd ps sp) (h : ∀ vs H Q E, sp' vs H Q E → sp vs H Q E) : Fb P w K mg base k f fd ps sp' :=
  ⟨fun vs H Q E q => F.len vs H Q E (h _ _ _ _ q), fun A outer s H args us vs Q E hr he hb hv hs => F.run A outer s H args us vs Q E hr he hb hv (h _ _ _ _ hs)⟩
/-! ### a call of one shape: positional values us, keywords ks -/
def Fc (P : Program) (w : World) (K : PySem.W.Frag) (mg : Str → Option Value) (base : Heap) (k : Nat) (f : Addr) (ks : List Str) (sp : Sp) : Prop :=
  ∀ (A : Around) (outer : List Env) (s : Shared) (H : Hp) (us ws : List Value) (vs : List V) (Q : VK) (E : XK), Rm k A → Env0 P w K mg base A outer s H → Vals vs (us ++ ws) → ws.length = ks.length → sp vs H Q E →
    codeAny (model P w) A (.call (.ref f) ⟨us, ks.zip ws⟩) (CR (L2.CX P w) outer P w H s Q E) s
theorem Fc.mono {j : Nat} {ks : List Str} (F : Fc P w K mg base j f ks sp) (h : j ≤ k) : Fc P w K mg base k f ks sp := fun A outer s H us ws vs Q E hr => F A outer s H us ws vs Q E (hr.mono h)
theorem Fc.imp {sp' : Sp} {ks : List Str} (F : Fc P w K mg base k f ks sp) (h : ∀ vs H Q E, sp' vs H Q E → sp vs H Q E) : Fc P w K mg base k f ks sp' :=
  fun A outer s H us ws vs Q E hr he hv hl hs => F A outer s H us ws vs Q E hr he hv hl (h _ _ _ _ hs)
/-- every parameter is given by place -/
theorem Fb.all (F : Fb P w K mg base k f fd ps sp) (hb : Binds K fd ps []) : Fc P w K mg base k f [] sp := fun A outer s H us ws vs Q E hr e0 r hl h => by
  cases ws with
  | cons w ws => cases hl
  | nil =>
    rw [List.append_nil] at r
    have KX : K.In s.heap := e0.mod.kin.keeps fun b o e => (e0.bs b o e).1
    have l2 : us.length = ps.length := by rw [← r.length]; exact F.len _ _ _ _ h
    have b := hb s us KX (by rw [List.append_nil]; exact l2)
    rw [List.append_nil] at b
    exact F.run A outer s H ⟨us, []⟩ us vs Q E hr e0 b r h
/-- some by place, some by name, some left out: g puts the given ones and the defaults into the parameters' order -/
theorem Fb.shape (D : FunD K x qual params body scope dvs kws f fd) (F : Fb P w K mg base k f fd ps sp) (n : Nat) (ks : List Str) (g : {α : Type} → List α → List α → List α) (hd : dvs ≠ [])
    (hrel : ∀ {vs ds : List V} {us its : List Value}, Vals vs us → Vals ds its → Vals (g vs ds) (g us its))
    (h : ∀ (T : Addr) (kV doc pm : Value) (an : Option Addr) (cdv ct : Value) (us ws its : List Value), us.length = n → ws.length = ks.length → its.length = dvs.length →
      ∃ k, bindArgs (PySem.W.fnOf x qual params body scope (.ref T) kV doc pm an cdv ct) ⟨us, ks.zip ws⟩ = seqItems? (.ref T) >>= k ∧ k (some its.toArray) = pure (ps.zip (g (us ++ ws) its))) :
    Fc P w K mg base k f ks (fun vs H Q E => vs.length = n + ks.length ∧ sp (g vs dvs) H Q E) := by
  obtain ⟨oc, od, dV, kV, doc, pm, an, cdv, ct, osl, rfl, lk, hcd, hD, hK⟩ := D.ex
  rcases hD with ⟨e, _⟩ | ⟨_, T, o, its, m, rfl, lT, oT, rT⟩
  · exact absurd e hd
  · intro A outer s H us ws vs Q E hr e0 r hl hsp
    have KX : K.In s.heap := e0.mod.kin.keeps fun b o e => (e0.bs b o e).1
    have l1 : its.length = dvs.length := rT.length.symm
    have l2 : us.length = n := by
      have e := r.length
      rw [hsp.1, List.length_append, hl] at e
      omega
    obtain ⟨k, e1, e2⟩ := h T kV doc pm an cdv ct us ws its l2 hl l1
    refine F.run A outer s H ⟨us, ks.zip ws⟩ (g (us ++ ws) its) (g vs dvs) Q E hr e0 (BindsTo.of_looks fun M => ?_) (hrel r rT) hsp.2
    rw [e1]
    exact looks_items KX lT oT (.of_pure e2)
/-- all parameters given, some by name, no defaults -/
theorem Fb.names (D : FunD K x qual params body scope [] kws f fd) (F : Fb P w K mg base k f fd ps sp) (n : Nat) (ks : List Str) (g : {α : Type} → List α → List α)
    (hrel : ∀ {vs : List V} {us : List Value}, Vals vs us → Vals (g vs) (g us))
    (h : ∀ (kV doc pm : Value) (an : Option Addr) (cdv ct : Value) (us ws : List Value), us.length = n → ws.length = ks.length →
      bindArgs (PySem.W.fnOf x qual params body scope .none kV doc pm an cdv ct) ⟨us, ks.zip ws⟩ = pure (ps.zip (g (us ++ ws)))) :
    Fc P w K mg base k f ks (fun vs H Q E => vs.length = n + ks.length ∧ sp (g vs) H Q E) := by
  obtain ⟨oc, od, dV, kV, doc, pm, an, cdv, ct, osl, rfl, lk, hcd, hD, hK⟩ := D.ex
  rcases hD with ⟨_, rfl⟩ | ⟨e, _⟩
  · intro A outer s H us ws vs Q E hr e0 r hl hsp
    have l2 : us.length = n := by
      have e := r.length
      rw [hsp.1, List.length_append, hl] at e
      omega
    exact F.run A outer s H ⟨us, ks.zip ws⟩ (g (us ++ ws)) (g vs) Q E hr e0 (.of_eq (h kV doc pm an cdv ct us ws l2 hl)) (hrel r) hsp.2
  · exact absurd rfl e
end
/-! ### calls -/
def tFc (sp : Sp) (W : WX) (t : TA) : TE := fun σ H Q => t σ H fun vs H1 => sp vs H1 Q (WE W σ)
def tFk (sp : Sp) (W : WX) (t tk : TA) : TE := fun σ H Q => t σ H fun vs H1 => tk σ H1 fun zs H2 => zs.length = zs.length ∧ sp (vs ++ zs) H2 Q (WE W σ)
section
variable {X : Cx} {k : Nat} {f C : Addr} {ks : List Str} {sp : Sp} {W : WX} {x m : Str} {p pos apos : Pos} {e o : Expr} {es : List Expr} {kws : List Keyword} {ta : TE} {t tk : TA}
theorem run_fc {pins : List (Addr × Obj)} {σ : L2.St} {H : Hp} {s : Shared} {Q : VK} {us ws : List Value} {vs : List V} (F : Fc X.prog X.w X.K X.mg X.base k f ks sp) (hr : Rm k X.A) (hx : Takes X W)
    (I : Inv X pins σ H s) (r : Vals vs (us ++ ws)) (hl : ws.length = ks.length) (h : sp vs H Q (WE W σ)) : wpAny (model X.prog X.w) X.A (call (.ref f) us (ks.zip ws)) (EP X pins σ Q) X.xe s := by
  refine wpAny_call (codeAny_mono (F X.A X.stack s H us ws vs Q (WE W σ) hr I.env0 r hl h) fun r s' hq => ?_)
  cases r with
  | error e => exact passAt hx σ pins H s e s' I hq
  | ok fl =>
    cases fl with
    | ret u => exact I.after hq
    | next => exact False.elim hq
    | brk => exact False.elim hq
    | cont => exact False.elim hq
/-- f(e, ..) -/
theorem c_call (F : Fc X.prog X.w X.K X.mg X.base k f [] sp) (hr : Rm k X.A) (hm : X.mg x = some (.ref f)) (hk : PySem.W.keepIn X.K (.ref f) = true) (hx : Takes X W)
    (ha : PA X (e :: es) t) (hg : Gl X x := by rfl) (hdb : (x == ("__debug__" : Str)) = false := by decide) (he : starEach (e :: es) X.env = (false, eval e X.env) :: starEach es X.env := by rfl) (hpl : (backTo pos (starEach es X.env)).any (·.1) = false := by rfl) :
    PE X (.Call (.Name x p) (e :: es) [] pos) (tFc sp W t) := by
  refine ⟨fun pins s σ H Q I h => ?_⟩
  refine wpAny_Call_Name_kw (ld_glob I hg hm ?_ hdb)
  refine PySem.W.callWith_K (h₀ := X.base) I.ok.mod.kin hk (thn (ha.run pos pins s σ H _ I h) fun us s1 ⟨vs, H1, I1, r, q⟩ => ⟨I1.kIn, ?_⟩) he hpl
  exact run_fc (ws := []) F hr hx I1 (by rw [List.append_nil]; exact r) rfl q
/-- f() -/
theorem c_call0 (F : Fc X.prog X.w X.K X.mg X.base k f [] sp) (hr : Rm k X.A) (hm : X.mg x = some (.ref f)) (hk : PySem.W.keepIn X.K (.ref f) = true) (hx : Takes X W)
    (hg : Gl X x := by rfl) (hdb : (x == ("__debug__" : Str)) = false := by decide) : PE X (.Call (.Name x p) [] [] pos) (tFc sp W tNil) := by
  refine ⟨fun pins s σ H Q I h => ?_⟩
  refine wpAny_Call_Name_kw (ld_glob I hg hm ?_ hdb)
  exact PySem.W.callWith_K0 I.kIn hk (run_fc (us := []) (ws := []) F hr hx I .nil rfl h)
/-- f(e, .., k = v, ..) -/
theorem c_callK (F : Fc X.prog X.w X.K X.mg X.base k f ks sp) (hr : Rm k X.A) (hm : X.mg x = some (.ref f)) (hk : PySem.W.keepIn X.K (.ref f) = true) (hx : Takes X W)
    (ha : PA X (e :: es) t) (hkw : PK X kws tk) (hg : Gl X x := by rfl) (hall : (backToKw pos (keywordEach kws X.env)).all (·.1.isSome) = true := by rfl) (hks : (backToKw pos (keywordEach kws X.env)).filterMap (·.1) = ks := by rfl)
    (hdb : (x == ("__debug__" : Str)) = false := by decide) (he : starEach (e :: es) X.env = (false, eval e X.env) :: starEach es X.env := by rfl)
    (hpl : ((backTo pos (starEach (e :: es) X.env)).any (·.1) || (backToKw pos (keywordEach kws X.env)).any (·.1.isNone)) = false := by rfl) :
    PE X (.Call (.Name x p) (e :: es) kws pos) (fun σ H Q => t σ H fun vs H1 => tk σ H1 fun zs H2 => zs.length = ks.length ∧ sp (vs ++ zs) H2 Q (WE W σ)) := by
  refine ⟨fun pins s σ H Q I h => ?_⟩
  refine wpAny_Call_Name_kw (ld_glob I hg hm ?_ hdb)
  refine PySem.W.callWith_KW (h₀ := X.base) I.ok.mod.kin hk hall (thn (ha.run pos pins s σ H _ I h) fun us s1 ⟨vs, H1, I1, r, q⟩ => ?_) hpl he
  refine thn (hkw.run pos pins s1 σ H1 _ I1 q) fun ws s2 ⟨zs, H2, I2, rz, l2, q2⟩ => ⟨I2.kIn, ?_⟩
  rw [hks]
  exact run_fc F hr hx I2 (r.append rz) (rz.length.symm.trans l2) q2
/-- f(k = v, ..) -/
theorem c_callK0 (F : Fc X.prog X.w X.K X.mg X.base k f ks sp) (hr : Rm k X.A) (hm : X.mg x = some (.ref f)) (hk : PySem.W.keepIn X.K (.ref f) = true) (hx : Takes X W)
    (hkw : PK X kws tk) (hg : Gl X x := by rfl) (hall : (backToKw pos (keywordEach kws X.env)).all (·.1.isSome) = true := by rfl) (hks : (backToKw pos (keywordEach kws X.env)).filterMap (·.1) = ks := by rfl)
    (hdb : (x == ("__debug__" : Str)) = false := by decide)
    (hpl : ((backTo pos (starEach [] X.env)).any (·.1) || (backToKw pos (keywordEach kws X.env)).any (·.1.isNone)) = false := by rfl) :
    PE X (.Call (.Name x p) [] kws pos) (fun σ H Q => tk σ H fun zs H2 => zs.length = ks.length ∧ sp zs H2 Q (WE W σ)) := by
  refine ⟨fun pins s σ H Q I h => ?_⟩
  refine wpAny_Call_Name_kw (ld_glob I hg hm ?_ hdb)
  refine PySem.W.callWith_KW0 (h₀ := X.base) I.ok.mod.kin hk hall ?_ hpl
  refine thn (hkw.run pos pins s σ H _ I h) fun ws s2 ⟨zs, H2, I2, rz, l2, q2⟩ => ⟨I2.kIn, ?_⟩
  rw [hks]
  exact run_fc (us := []) F hr hx I2 rz (rz.length.symm.trans l2) q2
end
/-! ### repr of data -/
@[irreducible] def rRepr (K : PySem.W.Frag) : List V → Hp → VK → Prop := fun xs H Q => ∃ (a : Addr) (d : PyData), xs = [.ref a] ∧ Dp K H (.ref a) d ∧ d.hasDict = false ∧ d.showable = true ∧ d.depth ≤ 60 ∧ d.shown.length ≤ sizeLine ∧ Q (.str d.shown) H
theorem call_repr {X : Cx} {k : Nat} (hr : Rm k X.A) : CallR X (.builtin "repr") (rRepr X.K) := by
  intro pins s σ H xs us Q I r h
  unfold rRepr at h
  obtain ⟨a, d, rfl, hd, hnd, hs, hdp, hsz, q⟩ := h
  cases r with
  | cons r1 r2 =>
    cases r2
    obtain ⟨as, rd⟩ := Dp.reads I d (.ref a) _ hd r1
    obtain rfl : _ = Value.ref a := r1
    refine repr_of_reads' rd hs (PyData.noDict_hsm hnd) hr.gd (by have := hr.rm.un; omega) (fun _ _ e => e) (fun h' u tk hk => ?_) hsz
    exact ⟨.str d.shown, H, I.kept hk, ⟨u, rfl⟩, q⟩
/-! ### the law's end -/
theorem rm_caller : Rm 40 callerA := ⟨⟨rfl, by decide, by decide⟩, rfl⟩
section
variable {P : Program} {w : World} {K : PySem.W.Frag} {mg mb : Str → Option Value} {k : Nat} {fa a : Addr} {fd : FuncData} {x : Str} {sp : Sp} {s₁ : Shared} {vs : List Value} {ns : List Int}
/-- the law's call over one abstract heap, in which at most the script is tracked -/
theorem law_core (H : Hp) (KX : K.In s₁.heap) (hns : s₁.heap.Ns mainGlobals mg) (hb : s₁.heap.Ns builtinsNs mb) (hbb : ∀ x : Str, x ≠ "__name__" → mb x = bootBuiltins x) (hlim : s₁.heap.NoLimit) (hg : s₁.gens = #[])
    (ha : s₁.heap.get? a = some { cls := .type "list", data := .seq vs.toArray }) (hr : Rm k callerA)
    (F : ∀ base : Heap, K.In base → base.Ns mainGlobals mg → Fb P w K mg base k fa fd [x] sp) (hbind : ∀ (s : Shared) (u : Value), BindsTo s fd ⟨[u], []⟩ [(x, u)])
    (hO : Only H) (hsp : sp [.ref a] H (fun v _ => v = .bl true) fun _ _ _ => False) (hok : HOk P w H s₁.heap) (hA : ∀ b, H b ≠ none → b = a) (hK : H a ≠ none → K.lookup a = none) :
    codeAny (model P w) callerA (.call (.ref fa) ⟨[.ref a], []⟩) (fun r s' => r = .ok (.ret (.bool true)) ∧ OldK s₁.heap s'.heap ∧ s'.os = s₁.os ∧ AllBare s'.gens) s₁ := by
  have isA : ∀ {b : Addr} {u : HO}, H b = some u → b = a := fun {b u} q => hA b (fun z => nomatch (q.symm.trans z))
  have free : ∀ {b : Addr} {o : Obj} {es : Array DictEntry} {ep : Nat}, s₁.heap.get? b = some o → o.data = .dict es ep → H b = none := fun {b o es ep} e d => by
    cases q : H b with
    | none => rfl
    | some u =>
      have eb := isA q
      subst eb
      rw [ha] at e
      cases e
      cases (show Data.seq vs.toArray _ = Data.dict es ep from d)
  have nsK : ∀ {b : Addr} {m : Str → Option Value}, s₁.heap.Ns b m → (hidT s₁.heap H).Ns b m := fun {b m} ⟨o, es, ep, e, d, r⟩ => ⟨o, es, ep, hidT_get e (free e d), d, r⟩
  have inK : K.In (hidT s₁.heap H) := fun b o e => hidT_get (KX b o e) (by
    cases q : H b with
    | none => rfl
    | some u =>
      have eb := isA q
      subst eb
      rw [hK (fun z => nomatch (q.symm.trans z))] at e
      cases e)
  have hM : Mod K mg (hidT s₁.heap H) := ⟨inK, nsK hns, ⟨mb, nsK hb, hbb⟩, let ⟨mc, h1, h2⟩ := hlim; ⟨mc, nsK h1, h2⟩⟩
  have e0 : Env0 P w K mg (hidT s₁.heap H) callerA [] s₁ H := ⟨rfl, hM, fun b o e => of_hidT e, Nat.le_of_eq (hidT_size _ _), trivial, (fun b z => nomatch (show b ∈ ([] : List Addr) from z)), hok, .of_eq hg⟩
  refine codeAny_mono ((F _ inK (nsK hns)).run callerA [] s₁ H ⟨[.ref a], []⟩ [.ref a] [.ref a] _ _ hr e0 (hbind s₁ (.ref a)) (.cons rfl .nil) hsp) fun r s' h => ?_
  cases r with
  | error e =>
    obtain ⟨_, _, _, _, _, _, _, _, _, _, _, _, z⟩ := h
    exact z.elim
  | ok fl =>
    cases fl with
    | next => exact h.elim
    | brk => exact h.elim
    | cont => exact h.elim
    | ret u =>
      obtain ⟨v, H', os, bare, un, hok2, rv, rfl⟩ := h
      obtain rfl : u = Value.bool true := rv
      refine ⟨rfl, OldK.of_keep fun b o e => ?_, os, bare⟩
      cases q : H b with
      | none => exact un.keep b o e q (fun z => nomatch (show b ∈ ([] : List Addr) from z)) (fun z => nomatch z)
      | some u =>
        rcases hO b with z | ⟨ob, xs, z⟩
        · exact nomatch (q.symm.trans z)
        · have e1 := (hok b _ z).1
          have e2 := (hok2 b _ (un.frzs b ob _ z)).1
          rw [e] at e1
          cases e1
          exact e2
theorem law_end (KX : K.In s₁.heap) (hns : s₁.heap.Ns mainGlobals mg) (hb : s₁.heap.Ns builtinsNs mb) (hbb : ∀ x : Str, x ≠ "__name__" → mb x = bootBuiltins x) (hlim : s₁.heap.NoLimit) (hg : s₁.gens = #[])
    (ha : s₁.heap.get? a = some { cls := .type "list", data := .seq vs.toArray }) (hi : IntsAre vs ns) (hl : ns.length ≤ sizeLine) (hr : Rm k callerA)
    (F : ∀ base : Heap, K.In base → base.Ns mainGlobals mg → Fb P w K mg base k fa fd [x] sp) (hbind : ∀ (s : Shared) (u : Value), BindsTo s fd ⟨[u], []⟩ [(x, u)])
    (hsp : ∀ H : Hp, SqL K H a (ns.map V.int) → sp [.ref a] H (fun v _ => v = .bl true) fun _ _ _ => False) :
    codeAny (model P w) callerA (.call (.ref fa) ⟨[.ref a], []⟩) (fun r s' => r = .ok (.ret (.bool true)) ∧ OldK s₁.heap s'.heap ∧ s'.os = s₁.os ∧ AllBare s'.gens) s₁ := by
  have rv := vals_ints hi
  cases hk : K.lookup a with
  | some o =>
    have e := KX a o hk
    rw [ha] at e
    cases e
    have sq : SqL K (fun _ => none) a (ns.map V.int) := .inr ⟨_, vs.toArray, _, hk, rfl, rfl, rfl, by rw [List.size_toArray, hi.length]; exact hl, by simpa using rv⟩
    exact law_core (fun _ => none) KX hns hb hbb hlim hg ha hr F hbind (fun _ => .inl rfl) (hsp _ sq) (fun b u z => nomatch (show (none : Option HO) = some u from z)) (fun b z => absurd rfl z) fun z => absurd rfl z
  | none =>
    have h1 : ∀ b, b ≠ a → (upd (fun _ => none) a (.frz { cls := .type "list", data := .seq vs.toArray } (.lst (ns.map V.int)))) b = none := fun b n => upd_ne n
    refine law_core (upd (fun _ => none) a (.frz { cls := .type "list", data := .seq vs.toArray } (.lst (ns.map V.int)))) KX hns hb hbb hlim hg ha hr F hbind (fun b => ?_) (hsp _ (.inl (.inr ⟨_, upd_same⟩))) (fun b u z => ?_) (fun b z => ?_) fun _ => hk
    · by_cases n : b = a
      · subst n
        exact .inr ⟨_, _, upd_same⟩
      · exact .inl (h1 b n)
    · by_cases n : b = a
      · subst n
        rw [upd_same] at z
        cases z
        exact ⟨ha, by rw [List.length_map]; exact hl, vs, _, rv, ha⟩
      · rw [h1 b n] at z
        cases z
    · by_cases n : b = a
      · exact n
      · exact absurd (h1 b n) z
end
theorem walk_end {l : PySem.W.OpenLaw} {n k : Nat} {q : Program} {loose : List Str} {XP : (Str → Option Value) → Heap → Prop} {YP : World → Heap → Prop} {d : DefRec} {x : Str}
    (hn : l.most = some n) (hn2 : n ≤ sizeLine) (hdf : d.params.defaults = []) (hr : Rm k callerA)
    (F : ∀ (w : World) (mg : Str → Option Value) (fa : Addr) (h : Heap), YP w h → h.Ns mainGlobals mg → mg d.name = some (.ref fa) →
      ∃ (K : PySem.W.Frag) (fd : FuncData) (sp : Sp), K.In h ∧ (∀ (s : Shared) (u : Value), BindsTo s fd ⟨[u], []⟩ [(x, u)]) ∧
        (∀ (H : Hp) (a : Addr) (ns : List Int), ns.length ≤ n → SqL K H a (ns.map V.int) → sp [.ref a] H (fun v _ => v = .bl true) fun _ _ _ => False) ∧
        ∀ base : Heap, K.In base → base.Ns mainGlobals mg → Fb l.prog w K mg base k fa fd [x] sp) :
    PySem.W.WalkO q loose XP YP l.row.toRowW d [] (fun f vs => PySem.call f vs) := by
  refine Att.attach_call hn hdf fun w s₀ s₁ mg mb fa o pm cd doc a vs ns G Y ho hd hcd hmg hobj hints hlen hg => ?_
  obtain ⟨K, fd, sp, KX, hb, hsp, hF⟩ := F w mg fa _ Y G.T.g hmg
  exact law_end KX G.T.g G.T.b G.T.builtins G.T.nolimit hg hobj hints (Nat.le_trans hlen hn2) hr hF hb (fun H hS => hsp H a ns hlen hS)
end L3
set_option Elab.async false
set_option linter.all false
set_option maxRecDepth 100000
set_option maxHeartbeats 4000000
namespace L3
open PySem PySem.Spec PyProof.Rows L2
/-! ### the head's facts: any Bools of the written part, and the defs -/
abbrev Fx := PySem.W.Frag → Bool
def obsX (xf : List Fx) (fn : List He.DefD) (K : PySem.W.Frag) : He.AlD := ((xf.all fun p => p K) && fn.all fun d => d.ok K, fn.map fun d => He.fnW K d.at_)
def SaysX (xf : List Fx) (fn : List He.DefD) (K : PySem.W.Frag) : Prop := obsX xf fn K = He.valD fn
def obsXG (n : Nat) (xf : List Fx) (fn : List He.DefD) (g : Addr → Option Obj) : He.AlD := obsX xf fn (He.frG g (He.asD g n))
def hookX (n : Nat) (xf : List Fx) (fn : List He.DefD) : PySem.W.Hook where
  α := He.AlD
  obs := fun s => obsXG n xf fn s.heap.get?
  val := fun _ => He.valD fn
  says := fun _ h => ∃ K : PySem.W.Frag, K.In h ∧ SaysX xf fn K
  of := fun _ _ e => ⟨_, He.frG_in, e⟩
  keeps := fun _ _ _ ⟨K, hK, c⟩ k => ⟨K, PySem.W.Frag.In.keeps hK k, c⟩
theorem obsXG_eq {n : Nat} {xf : List Fx} {fn : List He.DefD} {g : Addr → Option Obj} {s : Shared} (h : ∀ a, g a = s.heap.get? a) : obsXG n xf fn g = (hookX n xf fn).obs s := by
  have e : g = s.heap.get? := funext h
  rw [e] <;> rfl
section
variable {xf : List Fx} {fn : List He.DefD} {K : PySem.W.Frag}
theorem SaysX.fact (c : SaysX xf fn K) (i : Nat) {f : Fx} (h : xf[i]? = some f := by rfl) : f K = true := by
  have c1 := (He.ba (show ((xf.all fun f => f K) && fn.all fun d => d.ok K) = true from congrArg (fun z : He.AlD => z.1) c)).1
  exact List.all_eq_true.mp c1 f (List.mem_of_getElem? h)
theorem SaysX.def_ (c : SaysX xf fn K) (i : Nat) {d : He.DefD} (h : fn[i]? = some d := by rfl) : ∃ fd, FunD K d.name d.qual d.params d.body d.scope (d.dvs K) (d.kws K) (He.fAd K d.at_) fd := by
  have c2 := (He.ba (show ((xf.all fun f => f K) && fn.all fun d => d.ok K) = true from congrArg (fun z : He.AlD => z.1) c)).2
  have e : fn.map (fun d => He.fnW K d.at_) = fn.map He.DefD.val := congrArg (fun z : He.AlD => z.2) c
  have e2 : (fn.map fun d => He.fnW K d.at_)[i]? = (fn.map He.DefD.val)[i]? := by rw [e]
  rw [List.getElem?_map, List.getElem?_map, h] at e2
  exact He.DefD.funD (Option.some.inj e2) (List.all_eq_true.mp c2 d (List.mem_of_getElem? h))
end
/-! ### an own exception class without __init__ -/
structure Exo (K : PySem.W.Frag) (C : Addr) (bmB : List Value) (newId : String) : Prop where
  x : PySem.W.excIn K C bmB newId = true
  kp : PySem.W.keepIn K (.ref C) = true
  sub : PySem.W.subIn K (.ref C) (.type "BaseException") = some true
  ty : PySem.W.typeIn K (.ref C) = some (.type "type")
abbrev bmV : List Value := [.type "ValueError", .type "Exception", .type "BaseException", .type "object"]
abbrev bmL : List Value := [.type "LookupError", .type "Exception", .type "BaseException", .type "object"]
abbrev bmR : List Value := [.type "RuntimeError", .type "Exception", .type "BaseException", .type "object"]
def exoB (bmB : List Value) (newId : String) (x : Str) : Fx := fun K => PySem.W.excIn K (He.ga K x) bmB newId && (PySem.W.keepIn K (.ref (He.ga K x)) && (decide (PySem.W.subIn K (.ref (He.ga K x)) (.type "BaseException") = some true) && decide (PySem.W.typeIn K (.ref (He.ga K x)) = some (.type "type"))))
theorem exo_of {bmB : List Value} {newId : String} {x : Str} {K : PySem.W.Frag} (h : exoB bmB newId x K = true) : Exo K (He.ga K x) bmB newId := by
  obtain ⟨h1, h⟩ := He.ba h
  obtain ⟨h2, h⟩ := He.ba h
  obtain ⟨h3, h4⟩ := He.ba h
  exact ⟨h1, h2, of_decide_eq_true h3, of_decide_eq_true h4⟩
section
variable {K : PySem.W.Frag} {h : Heap} {mg : Str → Option Value}
theorem gint_of (X : K.In h) (G : h.Ns mainGlobals mg) {x : Str} {i : Int} (c : (He.Fa.int x i).ok K = true) : ∃ u, mg x = some u ∧ RelV (.int i) u := by
  obtain ⟨t, e⟩ := He.int_ok X G c
  exact ⟨_, e, ⟨t, rfl⟩⟩
theorem gstr_of (X : K.In h) (G : h.Ns mainGlobals mg) {x z : Str} (c : (He.Fa.str x z).ok K = true) : ∃ u, mg x = some u ∧ RelV (.str z) u := by
  obtain ⟨t, e⟩ := He.str_ok X G c
  exact ⟨_, e, ⟨t, rfl⟩⟩
end
/-- a module's constant -/
theorem pe_k {X : Cx} {x : Str} {v : V} {pos : Pos} (h : ∃ u, X.mg x = some u ∧ RelV v u) (hg : Gl X x := by rfl) (hdb : (x == ("__debug__" : Str)) = false := by decide) : PE X (.Name x pos) (tC v) := by
  obtain ⟨u, e, r⟩ := h
  exact pe_glob hg e r hdb
end L3
set_option Elab.async false
set_option linter.all false
set_option maxRecDepth 100000
set_option maxHeartbeats 4000000
namespace L3
open PySem PySem.Spec PyProof.Rows L2
/-! ### heaps that grow -/
abbrev Ex (H H' : Hp) : Prop := Same H H'
theorem ex_new {H : Hp} {p : Addr} {o : HO} (h : H p = none) : Ex H (upd H p o) := fun a u e => by
  rw [upd_ne (ne_of_none e h)]
  exact e
/-- an object that H does not know may change -/
theorem ex_mut {H H' : Hp} {p : Addr} {o : HO} (e : Ex H H') (h : H p = none) : Ex H (upd H' p o) := fun a u ha => by
  rw [upd_ne (ne_of_none ha h)]
  exact e a u ha
theorem ex_sql {K : PySem.W.Frag} {H H' : Hp} {a : Addr} {xs : List V} (e : Ex H H') (h : SqL K H a xs) : SqL K H' a xs := Same.seq e h
theorem ex_sqt {K : PySem.W.Frag} {H H' : Hp} {a : Addr} {xs : List V} (e : Ex H H') (h : SqT K H a xs) : SqT K H' a xs := by
  rcases h with (h | ⟨o, h⟩) | h
  · exact .inl (.inl (e _ _ h))
  · exact .inl (.inr ⟨o, e _ _ h⟩)
  · exact .inr h
theorem ex_fresh {H H' : Hp} {p : Addr} (e : Ex H H') (h : H' p = none) : H p = none := Same.free e h
theorem sq_lst {K : PySem.W.Frag} {H : Hp} {a : Addr} {xs : List V} (h : H a = some (.lst xs)) : SqL K H a xs := .inl (.inl h)
theorem sq_tup {K : PySem.W.Frag} {H : Hp} {a : Addr} {xs : List V} (h : H a = some (.tup xs)) : SqT K H a xs := .inl (.inl h)
/-! ### whole numbers, moments -/
/-- a value of a known type -/
def isW : V → Bool
  | .int _ => true
  | _ => false
def isM : V → Bool
  | .int i => decide (0 ≤ i)
  | _ => false
def isB (n : Int) : V → Bool
  | .int i => decide (0 ≤ i) && decide (i < n)
  | _ => false
def Cl (K : PySem.W.Frag) (H : Hp) (x : V) : Prop := ∃ t b c, TyX K H x t ∧ PySem.W.kitOne K t (.type "int") = some b ∧ PySem.W.kitOne K t (.type "bool") = some c ∧ isW x = (b && !c)
section
variable {K : PySem.W.Frag} {H : Hp}
theorem cl_int (i : Int) : Cl K H (.int i) := ⟨_, true, false, .base (.int i), kit_ty (by decide +kernel), kit_ty (by decide +kernel), rfl⟩
theorem cl_bl (b : Bool) : Cl K H (.bl b) := ⟨_, true, true, .base (.bl b), kit_ty (by decide +kernel), kit_ty (by decide +kernel), rfl⟩
theorem cl_non : Cl K H .non := ⟨_, false, false, .base .non, kit_ty (by decide +kernel), kit_ty (by decide +kernel), rfl⟩
theorem cl_str (z : Str) : Cl K H (.str z) := ⟨_, false, false, .base (.str z), kit_ty (by decide +kernel), kit_ty (by decide +kernel), rfl⟩
theorem kit_list : PySem.W.kitOne K (.type "list") (.type "int") = some false ∧ PySem.W.kitOne K (.type "list") (.type "bool") = some false := ⟨kit_ty (by decide +kernel), kit_ty (by decide +kernel)⟩
theorem kit_tuple : PySem.W.kitOne K (.type "tuple") (.type "int") = some false ∧ PySem.W.kitOne K (.type "tuple") (.type "bool") = some false := ⟨kit_ty (by decide +kernel), kit_ty (by decide +kernel)⟩
theorem kit_dict : PySem.W.kitOne K (.type "dict") (.type "int") = some false ∧ PySem.W.kitOne K (.type "dict") (.type "bool") = some false := ⟨kit_ty (by decide +kernel), kit_ty (by decide +kernel)⟩
theorem cl_lst {a : Addr} {xs : List V} (e : H a = some (.lst xs)) : Cl K H (.ref a) := ⟨_, false, false, .base (.lst e), kit_list.1, kit_list.2, rfl⟩
theorem cl_tup {a : Addr} {xs : List V} (e : H a = some (.tup xs)) : Cl K H (.ref a) := ⟨_, false, false, .base (.tup e), kit_tuple.1, kit_tuple.2, rfl⟩
theorem cl_dK {a : Addr} {kvs : List (Key × V)} (e : H a = some (.dK kvs)) : Cl K H (.ref a) := ⟨_, false, false, .base (.dK e), kit_dict.1, kit_dict.2, rfl⟩
end
theorem isM_w {x : V} (h : isM x = true) : ∃ i, x = .int i ∧ 0 ≤ i := by
  cases x with
  | int i => exact ⟨i, rfl, of_decide_eq_true h⟩
  | _ => cases h
theorem isW_w {x : V} (h : isW x = true) : ∃ i, x = .int i := by
  cases x with
  | int i => exact ⟨i, rfl⟩
  | _ => cases h
theorem isM_f {x : V} (h : isW x = false) : isM x = false := by
  cases x with
  | int i => cases h
  | _ => rfl
/-- given values and defaults in the parameters' order -/
def pick {α : Type} (ix : List (Sum Nat Nat)) (us its : List α) : List α := ix.filterMap fun j => match j with
  | .inl i => us[i]?
  | .inr i => its[i]?
theorem pick_vals {vs ds : List V} {us its : List Value} (ix : List (Sum Nat Nat)) (r1 : Vals vs us) (r2 : Vals ds its) : Vals (pick ix vs ds) (pick ix us its) := by
  have one : ∀ {vs : List V} {us : List Value} (i : Nat), Vals vs us → (∃ v u, vs[i]? = some v ∧ us[i]? = some u ∧ RelV v u) ∨ (vs[i]? = none ∧ us[i]? = none) := fun {vs us} i r => by
    cases e : vs[i]? with
    | none => exact .inr ⟨rfl, r.none_of e⟩
    | some v =>
      obtain ⟨u, h1, h2⟩ := r.get e
      exact .inl ⟨v, u, rfl, h1, h2⟩
  induction ix with
  | nil => exact .nil
  | cons j ix ih =>
    unfold pick at ih ⊢
    cases j with
    | inl i =>
      rcases one i r1 with ⟨v, u, h1, h2, h3⟩ | ⟨h1, h2⟩
      · simp only [List.filterMap_cons, h1, h2]
        exact .cons h3 ih
      · simp only [List.filterMap_cons, h1, h2]
        exact ih
    | inr i =>
      rcases one i r2 with ⟨v, u, h1, h2, h3⟩ | ⟨h1, h2⟩
      · simp only [List.filterMap_cons, h1, h2]
        exact .cons h3 ih
      · simp only [List.filterMap_cons, h1, h2]
        exact ih
end L3
namespace L3
open PySem PySem.Spec PyProof.Rows L2
/-! ### texts of data -/
theorem log_of {n : Nat} (h : n < 10 ^ 200) : n.log2 < 1920 := PySem.Flt.log2_lt_of (by decide) (Nat.lt_trans h (by decide +kernel))
/-- data that repr shows, without dicts: whole numbers of at most 500 figures, texts of any signs -/
def okI (i : Int) : Bool := decide (i.natAbs < 10 ^ 200)
def okT (x : Str) : Bool := x.cps.toList.all fun c => decide (c < 16 ^ 8)
mutual
def okD : PyData → Bool
  | .none => true
  | .bool _ => true
  | .int i => okI i
  | .str x => okT x
  | .list xs => okL xs
  | .tuple xs => okL xs
  | .dict _ => false
def okL : List PyData → Bool
  | [] => true
  | x :: xs => okD x && okL xs
end
mutual
def szD : PyData → Nat
  | .none => 4
  | .bool _ => 5
  | .int _ => 1921
  | .str x => 10 * x.length + 2
  | .list xs => szL xs + 3
  | .tuple xs => szL xs + 3
  | .dict _ => 0
def szL : List PyData → Nat
  | [] => 0
  | x :: xs => szD x + 2 + szL xs
end
mutual
theorem okD_tells : ∀ d : PyData, okD d = true → d.hasDict = false ∧ d.showable = true ∧ d.shown.length ≤ szD d
  | .none, _ => ⟨rfl, rfl, Nat.le_refl _⟩
  | .bool b, _ => ⟨rfl, rfl, by cases b <;> decide⟩
  | .int i, h => by
    have h1 : i.natAbs < 10 ^ 200 := of_decide_eq_true (show decide (i.natAbs < 10 ^ 200) = true from h)
    exact ⟨rfl, decide_eq_true (log_of h1), int_text_len_1921 (log_of h1)⟩
  | .str x, h => by
    have h1 : ∀ c ∈ x.cps.toList, c < 16 ^ 8 := fun c hc => of_decide_eq_true (List.all_eq_true.mp h c hc)
    exact ⟨rfl, rfl, StrLaws.reprText_len x h1⟩
  | .list xs, h => by
    obtain ⟨h1, h2, h3⟩ := okL_tells xs h
    refine ⟨h1, h2, Nat.le_trans (listText_len_le (PyData.shownAll xs)) ?_⟩
    have e := PyData.shownAll_length xs
    show _ ≤ szL xs + 3
    omega
  | .tuple xs, h => by
    obtain ⟨h1, h2, h3⟩ := okL_tells xs h
    refine ⟨h1, h2, Nat.le_trans (tupleText_len_le (PyData.shownAll xs)) ?_⟩
    have e := PyData.shownAll_length xs
    show _ ≤ szL xs + 3
    omega
  | .dict _, h => by cases h
theorem okL_tells : ∀ xs : List PyData, okL xs = true → PyData.hasDictAll xs = false ∧ PyData.showableAll xs = true ∧ ((PyData.shownAll xs).map (·.length)).sum + 2 * xs.length ≤ szL xs
  | [], _ => ⟨rfl, rfl, Nat.le_refl _⟩
  | x :: xs, h => by
    obtain ⟨g1, g2⟩ := He.ba (show (okD x && okL xs) = true from h)
    obtain ⟨h1, h2, h3⟩ := okD_tells x g1
    obtain ⟨k1, k2, k3⟩ := okL_tells xs g2
    refine ⟨?_, ?_, ?_⟩
    · show (x.hasDict || PyData.hasDictAll xs) = false
      rw [h1, k1]
      rfl
    · show (x.showable && PyData.showableAll xs) = true
      rw [h2, k2]
      rfl
    · show (x.shown.length + ((PyData.shownAll xs).map (·.length)).sum) + 2 * (xs.length + 1) ≤ szD x + 2 + szL xs
      omega
end
/-- repr of a list, a tuple -/
theorem rr_data {K : PySem.W.Frag} {H : Hp} {a : Addr} {d : PyData} {Q : VK} (h : Dp K H (.ref a) d) (ho : okD d = true) (hz : szD d ≤ 16000000) (hd : d.depth ≤ 60) (q : Q (.str d.shown) H) : rRepr K [.ref a] H Q := by
  obtain ⟨h1, h2, h3⟩ := okD_tells d ho
  unfold rRepr
  exact ⟨a, d, rfl, h, h1, h2, hd, Nat.le_trans h3 (Nat.le_trans hz (by rw [sizeLine_eq]; decide)), q⟩
section
variable {K : PySem.W.Frag} {H : Hp} {a : Addr} {ns : List Int} {Q : VK}
theorem dpAll_ints (K : PySem.W.Frag) (H : Hp) : ∀ ns : List Int, DpAll K H (ns.map V.int) (ns.map PyData.int)
  | [] => .nil
  | n :: ns => .cons (.int n) (dpAll_ints K H ns)
theorem ints_ok : ∀ ns : List Int, (∀ n ∈ ns, okI n = true) → okL (ns.map PyData.int) = true
  | [], _ => rfl
  | n :: ns, h => by
    show (okI n && okL (ns.map PyData.int)) = true
    rw [ints_ok ns fun m hm => h m (List.mem_cons_of_mem _ hm), h n List.mem_cons_self]
    rfl
theorem ints_sz : ∀ ns : List Int, szL (ns.map PyData.int) = 1923 * ns.length
  | [] => rfl
  | n :: ns => by
    show 1921 + 2 + szL (ns.map PyData.int) = 1923 * (ns.length + 1)
    rw [ints_sz ns]
    omega
theorem ints_depth : ∀ ns : List Int, PyData.depthAll (ns.map PyData.int) = 0
  | [] => rfl
  | n :: ns => by
    show max 0 (PyData.depthAll (ns.map PyData.int)) = 0
    rw [ints_depth ns]
    rfl
/-- the text of a list of whole numbers -/
def txtI (ns : List Int) : Str := PyData.shown (.list (ns.map PyData.int))
/-- repr(xs), xs a list of whole numbers -/
theorem rr_ints (h : SqL K H a (ns.map V.int)) (hs : ∀ n ∈ ns, okI n = true) (hl : ns.length ≤ 8000) (q : Q (.str (txtI ns)) H) : rRepr K [.ref a] H Q := by
  refine rr_data (.lst h (dpAll_ints K H ns)) (ints_ok ns hs) ?_ ?_ q
  · show szL (ns.map PyData.int) + 3 ≤ 16000000
    rw [ints_sz]
    omega
  · show PyData.depthAll (ns.map PyData.int) + 1 ≤ 60
    rw [ints_depth]
    decide
theorem okI_of {i : Int} (h1 : -(10 ^ 150) < i) (h2 : i < 10 ^ 150) : okI i = true := decide_eq_true (by
  have e : (10 : Nat) ^ 150 < 10 ^ 200 := by decide +kernel
  have e2 : i.natAbs < 10 ^ 150 := by omega
  exact Nat.lt_trans e2 e)
end
end L3
namespace L3
open PySem PySem.Spec PyProof.Rows L2
/-! ### all([f(x) for x in xs]), each answer True -/
section
variable {K : PySem.W.Frag} {a : Addr} {xs : List V} {g : TG} {tt : TT} {te : TE} {vs : List Nat} {σ : L2.St} {H1 : Hp} {D : Addr} {Qd : Hp → Prop}
theorem rep_snoc (n : Nat) : (List.replicate n true).map V.bl ++ [V.bl true] = (List.replicate (n + 1) true).map V.bl := by
  rw [List.replicate_succ', List.map_append]
  rfl
theorem small_len {n : Nat} (h : n ≤ 100000) : n < sizeLine := Nat.lt_of_le_of_lt h (by rw [sizeLine_eq]; decide)
abbrev Turn (g : TG) (tt : TT) (te : TE) (vs : List Nat) (σ : L2.St) (D : Addr) (x : V) (H : Hp) (N : Hp → Prop) : Prop :=
  g x (wipe σ vs) H fun σ2 H2 => wipe σ2 vs = wipe σ vs ∧ tt σ2 H2 fun b H3 => if b = true then te σ2 H3 fun y H4 => ∃ acc, H4 D = some (.lst acc) ∧ acc.length < sizeLine ∧ N (upd H4 D (.lst (acc ++ [y]))) else N H3
theorem lc_true_tup (I : Hp → Prop) (hI : ∀ H l, I H → I (upd H D (.lst l))) (i0 : I H1) (hx : xs.length ≤ 100000) (hl : ∀ H, I H → SqT K H a xs)
    (hs : ∀ (i : Nat) (x : V) (H : Hp) (acc : List V) (N : Hp → Prop), xs[i]? = some x → I H → H D = some (.lst acc) → acc.length < sizeLine → (∀ H4, I H4 → H4 D = some (.lst acc) → N (upd H4 D (.lst (acc ++ [.bl true])))) → Turn g tt te vs σ D x H N)
    (hd : ∀ H, I H → H D = some (.lst ((List.replicate xs.length true).map V.bl)) → Qd H) :
    ∃ W : Nat → Nat → Hp → Prop, (∃ m, W 0 m (upd H1 D (.lst []))) ∧ ∀ i m H, W i m H →
      ((Itt K a).stop i H ∧ Qd H) ∨ ((Itt K a).go i H ∧ ∃ Nx : Hp → Prop, (∀ H', Nx H' → ∃ m', m' < m ∧ W (i + 1) m' H') ∧ ∀ x H', (Itt K a).yld i H x H' → Turn g tt te vs σ D x H' Nx) := by
  refine lc_tup (fun i H => I H ∧ i ≤ xs.length ∧ H D = some (.lst ((List.replicate i true).map V.bl))) ⟨hI _ _ i0, Nat.zero_le _, upd_same⟩ (fun i H _ p => hl H p.1) ?_ (fun H p => hd H p.1 p.2.2)
  rintro i x H hi ⟨p1, p2, p3⟩
  have lt : i < xs.length := (List.getElem?_eq_some_iff.mp hi).1
  refine hs i x H _ _ hi p1 p3 ?_ fun H4 i4 d4 => ⟨hI _ _ i4, lt, by rw [upd_same, rep_snoc]⟩
  rw [List.length_map, List.length_replicate]
  exact small_len (by omega)
theorem lc_true_list (I : Hp → Prop) (hI : ∀ H l, I H → I (upd H D (.lst l))) (i0 : I H1) (hx : xs.length ≤ 100000) (hl : ∀ H, I H → SqL K H a xs)
    (hs : ∀ (i : Nat) (x : V) (H : Hp) (acc : List V) (N : Hp → Prop), xs[i]? = some x → I H → H D = some (.lst acc) → acc.length < sizeLine → (∀ H4, I H4 → H4 D = some (.lst acc) → N (upd H4 D (.lst (acc ++ [.bl true])))) → Turn g tt te vs σ D x H N)
    (hd : ∀ H, I H → H D = some (.lst ((List.replicate xs.length true).map V.bl)) → Qd H) :
    ∃ W : Nat → Nat → Hp → Prop, (∃ m, W 0 m (upd H1 D (.lst []))) ∧ ∀ i m H, W i m H →
      ((Itl K a).stop i H ∧ Qd H) ∨ ((Itl K a).go i H ∧ ∃ Nx : Hp → Prop, (∀ H', Nx H' → ∃ m', m' < m ∧ W (i + 1) m' H') ∧ ∀ x H', (Itl K a).yld i H x H' → Turn g tt te vs σ D x H' Nx) := by
  refine lc_list (fun i H => I H ∧ i ≤ xs.length ∧ H D = some (.lst ((List.replicate i true).map V.bl))) ⟨hI _ _ i0, Nat.zero_le _, upd_same⟩ (fun i H _ p => hl H p.1) ?_ (fun H p => hd H p.1 p.2.2)
  rintro i x H hi ⟨p1, p2, p3⟩
  have lt : i < xs.length := (List.getElem?_eq_some_iff.mp hi).1
  refine hs i x H _ _ hi p1 p3 ?_ fun H4 i4 d4 => ⟨hI _ _ i4, lt, by rw [upd_same, rep_snoc]⟩
  rw [List.length_map, List.length_replicate]
  exact small_len (by omega)
theorem all_rep (n : Nat) : (List.replicate n true).all id = true := by
  rw [List.all_eq_true]
  intro b hb
  exact (List.eq_of_mem_replicate hb)
end
end L3
namespace L3
open PySem PySem.Spec PyProof.Rows L2
/-! ### for k in range(max(1, min(len(script), most))) -/
abbrev turns (most : Int) (n : Nat) : Int := if (if most < (n : Int) then most else (n : Int)) > (1 : Int) then (if most < (n : Int) then most else (n : Int)) else (1 : Int)
theorem turns_lo (most : Int) (n : Nat) (h : 0 < most ∧ most ≤ 63) : -(2 ^ 62) ≤ turns most n := by
  unfold turns
  split <;> split <;> omega
theorem turns_hi (most : Int) (n : Nat) (h : 0 < most ∧ most ≤ 63) : turns most n < 2 ^ 62 := by
  unfold turns
  split <;> split <;> omega
theorem turns_lt {i : Nat} (most : Int) (n : Nat) (h : 0 < most ∧ most ≤ 63) (hi : i < (turns most n).toNat) : i < 1000 := by
  unfold turns at hi
  split at hi <;> split at hi <;> omega
end L3
set_option Elab.async false
set_option linter.all false
set_option maxRecDepth 100000
set_option maxHeartbeats 4000000
namespace L3
open PySem PySem.Spec PyProof.Rows L2 TL
/-! ### a comprehension whose i-th turn tells fm i -/
section
variable {J : It} {n : Nat} {G : Hp → Prop} {Y : Nat → Hp → V → Hp → Prop} {g : TG} {tt : TT} {te : TE} {vs : List Nat} {σ : L2.St} {H1 : Hp} {D : Addr} {Qd : Hp → Prop}
theorem range_fm_succ (fm : Nat → Option V) (i : Nat) : (List.range (i + 1)).filterMap fm = match fm i with
    | some y => (List.range i).filterMap fm ++ [y]
    | none => (List.range i).filterMap fm := by
  rw [List.range_succ, List.filterMap_append]
  cases e : fm i with
  | none => simp [e]
  | some y => simp [e]
theorem fm_len (fm : Nat → Option V) (i : Nat) : ((List.range i).filterMap fm).length ≤ i := by
  have := List.length_filterMap_le fm (List.range i)
  rwa [List.length_range] at this
theorem lc_fm (w : L2.Walk J n G Y) (fm : Nat → Option V) (I : Hp → Prop) (hI : ∀ H l, I H → I (upd H D (.lst l))) (i0 : I H1) (hn : n ≤ 100000) (hG : ∀ H, I H → G H)
    (hs : ∀ (i : Nat) (x : V) (H H' : Hp) (acc : List V) (N : Hp → Prop), i < n → I H → H D = some (.lst acc) → acc.length < sizeLine → Y i H x H' →
      (∀ H4, I H4 → H4 D = some (.lst acc) → match fm i with | some y => N (upd H4 D (.lst (acc ++ [y]))) | none => N H4) → Turn g tt te vs σ D x H' N)
    (hd : ∀ H, I H → H D = some (.lst ((List.range n).filterMap fm)) → Qd H) :
    ∃ W : Nat → Nat → Hp → Prop, (∃ m, W 0 m (upd H1 D (.lst []))) ∧ ∀ i m H, W i m H →
      (J.stop i H ∧ Qd H) ∨ (J.go i H ∧ ∃ Nx : Hp → Prop, (∀ H', Nx H' → ∃ m', m' < m ∧ W (i + 1) m' H') ∧ ∀ x H', J.yld i H x H' → Turn g tt te vs σ D x H' Nx) := by
  refine L2.lc_it w (fun i H => I H ∧ i ≤ n ∧ H D = some (.lst ((List.range i).filterMap fm))) ⟨hI _ _ i0, Nat.zero_le _, upd_same⟩ (fun i H _ p => hG H p.1) ?_ (fun H p => hd H p.1 p.2.2)
  rintro i x H H' hi ⟨p1, p2, p3⟩ y
  refine hs i x H H' _ _ hi p1 p3 (small_len (Nat.le_trans (fm_len fm i) (by omega))) y fun H4 i4 d4 => ?_
  have e := range_fm_succ fm i
  cases q : fm i with
  | none =>
    rw [q] at e
    exact ⟨i4, hi, by rw [e]; exact d4⟩
  | some y =>
    rw [q] at e
    exact ⟨hI _ _ i4, hi, by rw [upd_same, e]⟩
end
theorem range_map_get {α β : Type} (l : List α) (d : α) (f : α → β) : (List.range l.length).filterMap (fun i => some (f (l.getD i d))) = l.map f := by
  apply List.ext_getElem?
  intro i
  rw [List.filterMap_eq_map' (f := fun i => f (l.getD i d))]
  rw [List.getElem?_map, List.getElem?_map]
  by_cases h : i < l.length
  · rw [List.getElem?_range h, List.getElem?_eq_getElem h]
    simp [List.getD_eq_getElem?_getD, h]
  · rw [List.getElem?_eq_none (by simpa using h), List.getElem?_eq_none (by simpa using h)]
    rfl
/-! ### rules: rpartition, text * number -/
section
variable {X : Cx} {o e : Expr} {to te : TE}
theorem mt_rpartition : MtR X "str.rpartition" (fun x xs H Q => ∃ a b, x = .str a ∧ xs = [.str b] ∧ (b.length == 0) = false ∧ a.length ≤ sizeLine ∧
    ∀ p, H p = none → Q (.ref p) (upd H p (.tup [.str (Txt.rpartition a b).1, .str (Txt.rpartition a b).2.1, .str (Txt.rpartition a b).2.2]))) := by
  intro pins s σ H x xs v us Q I rx rs h
  obtain ⟨a, b, rfl, rfl, hb, hz, h⟩ := h
  obtain ⟨t, rfl⟩ := rx
  cases rs with
  | cons r1 rs =>
    cases rs
    obtain ⟨u, rfl⟩ := r1
    refine call_meets F.slot_str_rpartition (typeIs_str _ _ _) F.entry_str_rpartition (F.args_str_rpartition_2 _ _) (meets_str_rpartition a b t u hb hz) ?_
    unfold Txt.rpartition at h
    revert h
    cases Builtin.Str.lastOccurrence a b 0 a.length with
    | none => intro h; exact laid_parts I h
    | some i => intro h; exact laid_parts I h
theorem pe_rpartition {apos pos : Pos} (ho : PE X o to) (he : PE X e te) (hs : starEach [e] X.env = [(false, eval e X.env)] := by rfl) (hbase : attributeBase o "rpartition" X.env (eval o X.env) = eval o X.env := by rfl) (hline : (apos.endLine == pos.line) = true := by rfl) :
    PE X (.Call (.Attribute o "rpartition" apos) [e] [] pos) (tM1 (fun x xs H Q => ∃ a b, x = .str a ∧ xs = [.str b] ∧ (b.length == 0) = false ∧ a.length ≤ sizeLine ∧
      ∀ p, H p = none → Q (.ref p) (upd H p (.tup [.str (Txt.rpartition a b).1, .str (Txt.rpartition a b).2.1, .str (Txt.rpartition a b).2.2]))) to te) :=
  pe_m1 F.slot_str_rpartition F.type_str_rpartition mt_rpartition ho he hs hbase hline
/-- x * n, x a text of one sign -/
theorem op_repS : OpR X (binaryOp .Mult) (fun x y H Q => ∃ (a : Str) (n : Int), x = .str a ∧ y = .int n ∧ a.length ≤ 1000 ∧ 0 ≤ n ∧ n ≤ 10000 ∧ Q (.str (Txt.mul a n)) H) := by
  intro pins s σ H x y v u Q I rx ry h
  obtain ⟨a, n, rfl, rfl, ha, h0, h1, q⟩ := h
  obtain ⟨t, rfl⟩ := rx
  obtain ⟨t', rfl⟩ := ry
  refine SB.mul ⟨?_, fun z _ => ?_, fun z _ => ?_⟩ fun t' k => ⟨.str _, H, I.tok _, ⟨_, rfl⟩, q⟩
  · rw [decide_eq_false (by omega), decide_eq_false (by omega)]
    rfl
  · have hn : 0 < n := by omega
    have h2 : (a.length : Int) * n ≤ 1000 * 10000 := Int.mul_le_mul (by omega) h1 h0 (by decide)
    have h3 : (a.length : Int) ≤ (2 ^ 63 - 1) / n := Int.le_ediv_of_mul_le hn (by omega)
    omega
  · unfold Builtin.Str.tooLong
    rw [decide_eq_false]
    have h2 : a.length * n.toNat ≤ 1000 * 10000 := Nat.mul_le_mul ha (by omega)
    rw [sizeLine_eq]
    omega
end
end L3
set_option Elab.async false
set_option linter.all false
set_option maxRecDepth 100000
set_option maxHeartbeats 4000000
/-! Texts of numbers and moments, as lists of codes; no program here. -/
namespace Mo
open PySem TL
def isFig (c : Nat) : Bool := decide (48 ≤ c) && decide (c ≤ 57)
def figs (l : List Nat) : Bool := !l.isEmpty && l.all isFig
def val (l : List Nat) : Nat := NumText.digitsVal l
def num? (l : List Nat) : Option Nat := if figs l && !(decide (1 < l.length) && l.head? == some 48) then some (val l) else none
theorem isFig_iff {c : Nat} : isFig c = true ↔ 48 ≤ c ∧ c ≤ 57 := by
  unfold isFig
  rw [Bool.and_eq_true, decide_eq_true_eq, decide_eq_true_eq]
theorem all_digits {l : List Nat} (h : l.all isFig = true) : NumText.AllDigits l := fun c hc => isFig_iff.mp (List.all_eq_true.mp h c hc)
theorem all_fig {l : List Nat} (h : NumText.AllDigits l) : l.all isFig = true := List.all_eq_true.mpr fun c hc => isFig_iff.mpr (h c hc)
theorem figs_iff {l : List Nat} : figs l = true ↔ l ≠ [] ∧ NumText.AllDigits l := by
  unfold figs
  rw [Bool.and_eq_true]
  constructor
  · rintro ⟨h1, h2⟩
    exact ⟨(by rintro rfl; cases h1), all_digits h2⟩
  · rintro ⟨h1, h2⟩
    refine ⟨?_, all_fig h2⟩
    cases l with
    | nil => exact absurd rfl h1
    | cons a r => rfl
theorem figs_num (n : Nat) : figs (numL n) = true := figs_iff.mpr ⟨numL_ne n, numL_digits n⟩
theorem numL_head : ∀ n : Nat, 1 ≤ n → (numL n).head? ≠ some 48 := by
  intro n
  induction n using Nat.strongRecOn with
  | ind n ih =>
    intro h
    by_cases hn : n < 10
    · rw [numL_lt hn]
      simp
      omega
    · rw [numL_step (by omega)]
      have z := ih (n / 10) (by omega) (by omega)
      have y := numL_ne (n / 10)
      cases e : numL (n / 10) with
      | nil => exact absurd e y
      | cons a r =>
        rw [e] at z
        simpa using z
theorem numL_one {n : Nat} (h : 1 < (numL n).length) : 10 ≤ n := by
  by_cases hn : n < 10
  · rw [numL_lt hn] at h
    simp at h
  · omega
theorem val_num (n : Nat) : val (numL n) = n := numL_val n
theorem num_num (n : Nat) : num? (numL n) = some n := by
  unfold num?
  rw [figs_num, val_num]
  have e : (decide (1 < (numL n).length) && (numL n).head? == some 48) = false := by
    by_cases h : 1 < (numL n).length
    · have h2 := numL_head n (by have := numL_one h; omega)
      rw [decide_eq_true h]
      simpa using h2
    · rw [decide_eq_false h]
      rfl
  rw [e]
  rfl
theorem val_lt {l : List Nat} (h : NumText.AllDigits l) : NumText.digitsVal l < 10 ^ l.length := by
  have key : ∀ (l : List Nat) (a : Nat), NumText.AllDigits l → l.foldl (fun acc c => acc * 10 + (c - 48)) a < (a + 1) * 10 ^ l.length := by
    intro l
    induction l with
    | nil => intro a _; simp
    | cons c r ih =>
      intro a h
      have hc := h.head
      have z := ih (a * 10 + (c - 48)) h.tail
      rw [List.foldl_cons, List.length_cons, Nat.pow_succ]
      refine Nat.lt_of_lt_of_le z ?_
      have : (a * 10 + (c - 48) + 1) ≤ (a + 1) * 10 := by omega
      calc (a * 10 + (c - 48) + 1) * 10 ^ r.length ≤ (a + 1) * 10 * 10 ^ r.length := Nat.mul_le_mul_right _ this
        _ = (a + 1) * (10 ^ r.length * 10) := by rw [Nat.mul_assoc, Nat.mul_comm 10]
  have z := key l 0 h
  simpa [NumText.digitsVal] using z
/-! ### cut at the last sign -/
def rcut (c : Nat) : List Nat → Option (List Nat × List Nat)
  | [] => none
  | x :: r => match rcut c r with
    | some (h, t) => some (x :: h, t)
    | none => if x = c then some ([], r) else none
theorem rcut_none {c : Nat} : ∀ {l : List Nat}, c ∉ l → rcut c l = none
  | [], _ => rfl
  | x :: r, h => by
    have h1 : c ∉ r := fun z => h (List.mem_cons_of_mem _ z)
    have h2 : x ≠ c := fun z => h (by rw [z]; exact List.mem_cons_self)
    unfold rcut
    rw [rcut_none h1]
    exact if_neg h2
theorem rcut_some {c : Nat} : ∀ (p : List Nat) {q : List Nat}, c ∉ q → rcut c (p ++ c :: q) = some (p, q)
  | [], q, h => by
    show rcut c (c :: q) = some ([], q)
    unfold rcut
    rw [rcut_none h]
    exact if_pos rfl
  | x :: p, q, h => by
    show rcut c (x :: (p ++ c :: q)) = some (x :: p, q)
    unfold rcut
    rw [rcut_some p h]
theorem rcut_is {c : Nat} : ∀ {l p q : List Nat}, rcut c l = some (p, q) → l = p ++ c :: q ∧ c ∉ q
  | [], _, _, h => by cases h
  | x :: r, p, q, h => by
    unfold rcut at h
    cases e : rcut c r with
    | some z =>
      obtain ⟨h1, h2⟩ := z
      rw [e] at h
      cases h
      obtain ⟨e1, e2⟩ := rcut_is e
      exact ⟨by rw [e1]; rfl, e2⟩
    | none =>
      rw [e] at h
      by_cases hx : x = c
      · have h' : some (([] : List Nat), r) = some (p, q) := by rw [← h]; simp [hx]
        cases h'
        refine ⟨by rw [hx]; rfl, fun z => ?_⟩
        obtain ⟨a, b, eab⟩ := List.append_of_mem z
        -- the last c of r
        have key : ∀ l : List Nat, c ∈ l → rcut c l ≠ none := by
          intro l
          induction l with
          | nil => intro z; cases z
          | cons y l ih =>
            intro z w
            unfold rcut at w
            cases e2 : rcut c l with
            | some k => rw [e2] at w; cases w
            | none =>
              rw [e2] at w
              rcases List.mem_cons.mp z with rfl | z
              · simp at w
              · exact ih z e2
        exact key r z e
      · simp [hx] at h
theorem rcut_nin {c : Nat} : ∀ {l : List Nat}, rcut c l = none → c ∉ l := by
  intro l
  induction l with
  | nil => intro _ z; cases z
  | cons y l ih =>
    intro w z
    unfold rcut at w
    cases e2 : rcut c l with
    | some k => rw [e2] at w; cases w
    | none =>
      rw [e2] at w
      rcases List.mem_cons.mp z with rfl | z
      · simp at w
      · exact ih e2 z
theorem rpartition_S (a : List Nat) (c : Nat) : Txt.rpartition (SX.S a) (SX.S [c]) = match rcut c a with
    | some (p, q) => (SX.S p, SX.S [c], SX.S q)
    | none => (SX.S [], SX.S [], SX.S a) := by
  have hy : tl (SX.S [c]) ≠ [] := by simp
  have pr : ∀ i, pre (tl (SX.S [c])) ((tl (SX.S a)).drop i) = true ↔ a[i]? = some c := fun i => by
    show ((a.drop i).take 1 == [c]) = true ↔ _
    rw [beq_iff_eq]
    by_cases hi : i < a.length
    · have e1 : a.drop i = a[i] :: a.drop (i + 1) := List.drop_eq_getElem_cons hi
      rw [e1, List.getElem?_eq_getElem hi, List.take_succ_cons, List.take_zero]
      constructor
      · intro z
        injection z with z1
        rw [z1]
      · intro z
        injection z with z1
        rw [z1]
    · rw [List.drop_eq_nil_of_le (by omega), List.getElem?_eq_none (by omega)]
      simp
  unfold Txt.rpartition
  rcases StrLaws.last_spec (SX.S a) (SX.S [c]) with ⟨e, h⟩ | ⟨i, e, h, k⟩
  · rw [e]
    have hn : c ∉ a := fun z => by
      obtain ⟨i, hi, hc⟩ := List.getElem_of_mem z
      exact h i ((at_iff hy i).mpr ((pr i).mpr (by rw [List.getElem?_eq_getElem hi, hc])))
    rw [rcut_none hn]
    rfl
  · rw [e]
    have hi := (pr i).mp ((at_iff hy i).mp h)
    obtain ⟨lt, hc⟩ := List.getElem?_eq_some_iff.mp hi
    have hq : c ∉ a.drop (i + 1) := fun z => by
      obtain ⟨j, hj, hcj⟩ := List.getElem_of_mem z
      rw [List.length_drop] at hj
      refine k (i + 1 + j) (by omega) ((at_iff hy _).mpr ((pr _).mpr ?_))
      rw [List.getElem_drop] at hcj
      rw [List.getElem?_eq_getElem (by omega), hcj]
    have ea : a = a.take i ++ c :: a.drop (i + 1) := by
      rw [← hc, List.getElem_cons_drop, List.take_append_drop]
    have er : rcut c a = some (a.take i, a.drop (i + 1)) := by
      conv => lhs; rw [ea]
      exact rcut_some _ hq
    rw [er]
    show (Builtin.Str.strSub (SX.S a) 0 i, SX.S [c], Builtin.Str.strSub (SX.S a) (i + (SX.S [c]).length) (SX.S a).length) = (SX.S (a.take i), SX.S [c], SX.S (a.drop (i + 1)))
    have e1 : Builtin.Str.strSub (SX.S a) 0 i = SX.S (a.take i) := ext_tl (by rw [tl_strSub]; simp)
    have e2 : Builtin.Str.strSub (SX.S a) (i + (SX.S [c]).length) (SX.S a).length = SX.S (a.drop (i + 1)) := ext_tl (by rw [tl_strSub_end]; simp [SX.S_len])
    rw [e1, e2]
/-! ### cut at the first sign -/
theorem pre1 (c x : Nat) (r : List Nat) : pre [c] (x :: r) = decide (x = c) := by
  show ([x] == [c]) = decide (x = c)
  by_cases h : x = c
  · rw [h, decide_eq_true rfl]
    simp
  · rw [decide_eq_false h]
    simpa using h
theorem par_is {c : Nat} : ∀ {l acc p q : List Nat}, par [c] acc l = some (p, q) → ∃ p', p = acc ++ p' ∧ l = p' ++ c :: q ∧ c ∉ p'
  | [], _, _, _, h => by cases h
  | x :: r, acc, p, q, h => by
    by_cases hx : x = c
    · have e : pre [c] (x :: r) = true := by rw [pre1, decide_eq_true hx]
      rw [par_hit e] at h
      cases h
      exact ⟨[], by simp, by rw [hx]; rfl, by simp⟩
    · have e : pre [c] (x :: r) = false := by rw [pre1, decide_eq_false hx]
      rw [par_miss e] at h
      obtain ⟨p', e1, e2, e3⟩ := par_is h
      refine ⟨x :: p', by rw [e1]; simp, by rw [e2]; rfl, fun z => ?_⟩
      rcases List.mem_cons.mp z with z | z
      · exact hx z.symm
      · exact e3 z
theorem par_nin {c : Nat} : ∀ {l acc : List Nat}, par [c] acc l = none → c ∉ l
  | [], _, _ => by simp
  | x :: r, acc, h => by
    by_cases hx : x = c
    · have e : pre [c] (x :: r) = true := by rw [pre1, decide_eq_true hx]
      rw [par_hit e] at h
      cases h
    · have e : pre [c] (x :: r) = false := by rw [pre1, decide_eq_false hx]
      rw [par_miss e] at h
      intro z
      rcases List.mem_cons.mp z with z | z
      · exact hx z.symm
      · exact par_nin h z
/-! ### moments -/
def two (m : Nat) : List Nat := [48 + m / 10, 48 + m % 10]
def clk (m : Nat) : List Nat := numL (m % 1440 / 60) ++ 58 :: two (m % 60)
def shw (m : Nat) : List Nat := if m / 1440 = 0 then clk m else numL (m / 1440) ++ 32 :: clk m
def dayOf (l : List Nat) : Option Nat := match num? l with
  | some 0 => none
  | o => o
def clkOf (l : List Nat) : Option Nat := match par [58] [] l with
  | none => none
  | some (h, m) => if decide (m.length = 2) && figs m then (match num? h with
    | some k => if k < 24 ∧ val m < 60 then some (k * 60 + val m) else none
    | none => none) else none
def momOf (l : List Nat) : Option Nat := match rcut 32 l with
  | none => clkOf l
  | some (h, t) => match dayOf h with
    | none => none
    | some d => (clkOf t).map fun m => d * 1440 + m
theorem two_val {m : Nat} (h : m < 60) : figs (two m) = true ∧ val (two m) = m := by
  have all : ∀ m, m < 60 → (figs (two m) && decide (val (two m) = m)) = true := by decide +kernel
  have z := all m h
  rw [Bool.and_eq_true, decide_eq_true_eq] at z
  exact z
theorem clkOf_clk (m : Nat) : clkOf (clk m) = some (m % 1440) := by
  unfold clkOf clk
  have e := SX.par_head (c := 58) (sep := []) (two (m % 60)) (p := numL (m % 1440 / 60)) (numL_free (.inr (by decide)))
  rw [show numL (m % 1440 / 60) ++ 58 :: two (m % 60) = numL (m % 1440 / 60) ++ ([58] ++ two (m % 60)) from rfl]
  rw [show par [58] [] (numL (m % 1440 / 60) ++ ([58] ++ two (m % 60))) = some (numL (m % 1440 / 60), two (m % 60)) from e]
  obtain ⟨h1, h2⟩ := two_val (show m % 60 < 60 by omega)
  show (if decide ((two (m % 60)).length = 2) && figs (two (m % 60)) then _ else none) = _
  rw [h1, num_num, h2]
  have : m % 1440 / 60 < 24 ∧ m % 60 < 60 := by omega
  simp only [this, and_self, if_true, two]
  simp
  omega
theorem clk_free (m : Nat) : 32 ∉ clk m := by
  unfold clk
  intro z
  rcases List.mem_append.mp z with z | z
  · exact numL_free (.inl (by decide)) z
  · simp only [two, List.mem_cons, List.not_mem_nil, or_false] at z
    omega
theorem momOf_shw (m : Nat) : momOf (shw m) = some m := by
  unfold momOf shw
  by_cases h : m / 1440 = 0
  · rw [if_pos h, rcut_none (clk_free m), clkOf_clk]
    simp
    omega
  · rw [if_neg h, rcut_some _ (clk_free m)]
    have e : dayOf (numL (m / 1440)) = some (m / 1440) := by
      unfold dayOf
      rw [num_num]
      cases k : m / 1440 with
      | zero => exact absurd k h
      | succ j => rfl
    simp only [e, clkOf_clk]
    simp
    omega
theorem shw_len {m k : Nat} (hk : 0 < k) (h : m < 10 ^ k) : (shw m).length ≤ k + 8 := by
  have h1 : (numL (m % 1440 / 60)).length ≤ 2 := numL_len (by decide) (by omega)
  have h2 : (numL (m / 1440)).length ≤ k := numL_len hk (Nat.lt_of_le_of_lt (Nat.div_le_self _ _) h)
  unfold shw clk two
  split <;> simp <;> omega
theorem shw_inj {m n : Nat} (h : shw m = shw n) : m = n := by
  have e := momOf_shw m
  rw [h, momOf_shw] at e
  exact (Option.some.inj e).symm
end Mo
namespace Mo
open PySem TL L2
/-! ### slices -/
theorem cut_to (l : List Nat) (k : Nat) : cutS (SX.S l) none (some (k : Int)) = SX.S (l.take k) := by
  unfold cutS
  rw [HT.sIx_nat, HT.sIx_none]
  refine ext_tl ?_
  show (l.drop 0).take (min k (SX.S l).length - 0) = l.take k
  rw [SX.S_len, List.drop_zero, Nat.sub_zero, List.take_eq_take_iff]
  omega
theorem cut_from (l : List Nat) (k : Nat) : cutS (SX.S l) (some (k : Int)) none = SX.S (l.drop k) := by
  unfold cutS
  rw [HT.sIx_nat, HT.sIx_none]
  refine ext_tl ?_
  show (l.drop (min k (SX.S l).length)).take ((SX.S l).length - min k (SX.S l).length) = l.drop k
  rw [SX.S_len]
  by_cases h : k ≤ l.length
  · rw [Nat.min_eq_left h]
    exact List.take_of_length_le (by rw [List.length_drop]; omega)
  · rw [Nat.min_eq_right (by omega), List.drop_eq_nil_of_le (Nat.le_refl _), List.drop_eq_nil_of_le (by omega)]
    simp
theorem cut_mid (l : List Nat) (i j : Nat) : cutS (SX.S l) (some (i : Int)) (some (j : Int)) = SX.S ((l.drop i).take (j - i)) := by
  unfold cutS
  rw [HT.sIx_nat, HT.sIx_nat]
  refine ext_tl ?_
  show (l.drop (min i (SX.S l).length)).take (min j (SX.S l).length - min i (SX.S l).length) = (l.drop i).take (j - i)
  rw [SX.S_len]
  by_cases h : i ≤ l.length
  · rw [Nat.min_eq_left h, List.take_eq_take_iff, List.length_drop]
    omega
  · rw [Nat.min_eq_right (by omega : l.length ≤ i), List.drop_eq_nil_of_le (Nat.le_refl _), List.drop_eq_nil_of_le (by omega : l.length ≤ i)]
    simp
end Mo
namespace Mo
open PySem TL L2
/-! ### split at one sign -/
theorem spl_ne (S : List Nat) : ∀ (k : Nat) (acc l : List Nat), spl S k acc l ≠ []
  | k, acc, [] => by rw [spl_nil]; simp
  | 0, acc, c :: r => by
    unfold spl
    split
    · simp
    · exact spl_ne S 0 _ r
  | k + 1, acc, c :: r => by
    unfold spl
    exact spl_ne S k acc r
theorem first_of {c : Nat} : ∀ {l : List Nat}, c ∈ l → ∃ p q, l = p ++ c :: q ∧ c ∉ p
  | x :: r, h => by
    by_cases hx : x = c
    · exact ⟨[], r, by rw [hx]; rfl, by simp⟩
    · rcases List.mem_cons.mp h with h | h
      · exact absurd h.symm hx
      · obtain ⟨p, q, e, n⟩ := first_of h
        refine ⟨x :: p, q, by rw [e]; rfl, fun z => ?_⟩
        rcases List.mem_cons.mp z with z | z
        · exact hx z.symm
        · exact n z
theorem spl_cut {c : Nat} {p : List Nat} (q : List Nat) (h : c ∉ p) : spl [c] 0 [] (p ++ c :: q) = p :: spl [c] 0 [] q := by
  have e := spl_part1 (s := c) (S := []) (rest := q) (acc := []) h
  simpa using e
theorem spl_one {c : Nat} {p : List Nat} (h : c ∉ p) : spl [c] 0 [] p = [p] := by
  have e := spl_last1 (s := c) (S := []) (acc := []) h
  simpa using e
theorem spl_two {c : Nat} {l : List Nat} (h : c ∈ l) : 2 ≤ (spl [c] 0 [] l).length := by
  obtain ⟨p, q, rfl, n⟩ := first_of h
  rw [spl_cut q n]
  have := spl_ne [c] 0 [] q
  cases e : spl [c] 0 [] q with
  | nil => exact absurd e this
  | cons a r => simp
theorem spl_le (c : Nat) : ∀ (n : Nat) (l : List Nat), l.length ≤ n → (∀ p ∈ spl [c] 0 [] l, p.length ≤ l.length) ∧ (spl [c] 0 [] l).length ≤ l.length + 1
  | n, l, hn => by
    by_cases h : c ∈ l
    · obtain ⟨p, q, rfl, np⟩ := first_of h
      cases n with
      | zero => simp at hn
      | succ m =>
        have ih := spl_le c m q (by simp at hn; omega)
        rw [spl_cut q np]
        refine ⟨fun x hx => ?_, ?_⟩
        · rcases List.mem_cons.mp hx with rfl | hx
          · simp
          · have := ih.1 x hx
            simp
            omega
        · have := ih.2
          simp
          omega
    · rw [spl_one h]
      simp
/-- the words of a text, by its last blank -/
theorem words_of (l : List Nat) : (rcut 32 l = none ∧ spl [32] 0 [] l = [l]) ∨ (∃ h t, rcut 32 l = some (h, t) ∧ spl [32] 0 [] l = [h, t]) ∨ (momOf l = none ∧ 2 < (spl [32] 0 [] l).length) := by
  cases e : rcut 32 l with
  | none => exact .inl ⟨rfl, spl_one (rcut_nin e)⟩
  | some z =>
    obtain ⟨h, t⟩ := z
    obtain ⟨el, nt⟩ := rcut_is e
    by_cases hb : 32 ∈ h
    · refine .inr (.inr ⟨?_, ?_⟩)
      · unfold momOf
        rw [e]
        have : dayOf h = none := by
          have hf : figs h = false := by
            cases f : figs h with
            | false => rfl
            | true =>
              have := (figs_iff.mp f).2 32 hb
              omega
          unfold dayOf num?
          rw [hf]
          rfl
        simp only [this]
      · obtain ⟨p, q, eh, np⟩ := first_of hb
        rw [el, eh, List.append_assoc]
        show 2 < (spl [32] 0 [] (p ++ 32 :: (q ++ 32 :: t))).length
        rw [spl_cut _ np]
        have := spl_two (c := 32) (l := q ++ 32 :: t) (by simp)
        simp
        omega
    · refine .inr (.inl ⟨h, t, rfl, ?_⟩)
      rw [el, spl_cut t hb, spl_one nt]
theorem parts_of (u : List Nat) : (∃ h m, spl [58] 0 [] u = [h, m] ∧ h.length + m.length < u.length ∧ clkOf u = if decide (m.length = 2) && figs m then (match num? h with
      | some k => if k < 24 ∧ val m < 60 then some (k * 60 + val m) else none
      | none => none) else none) ∨ (clkOf u = none ∧ (spl [58] 0 [] u).length ≠ 2) := by
  cases e : par [58] [] u with
  | none =>
    refine .inr ⟨by unfold clkOf; rw [e], ?_⟩
    rw [spl_one (par_nin e)]
    simp
  | some z =>
    obtain ⟨h, m⟩ := z
    obtain ⟨h', eh, eu, nh⟩ := par_is e
    have eh2 : h = h' := by rw [eh]; rfl
    subst eh2
    by_cases hm : 58 ∈ m
    · refine .inr ⟨?_, ?_⟩
      · unfold clkOf
        rw [e]
        have hf : figs m = false := by
          cases f : figs m with
          | false => rfl
          | true =>
            have := (figs_iff.mp f).2 58 hm
            omega
        simp only [hf, Bool.and_false]
        rfl
      · rw [eu, spl_cut m nh]
        have := spl_two hm
        simp
        omega
    · refine .inl ⟨h, m, ?_, by rw [eu]; simp, ?_⟩
      · rw [eu, spl_cut m nh, spl_one hm]
      · unfold clkOf
        rw [e]
end Mo
namespace Mo
open PySem TL L2
theorem val_zero {h : List Nat} {n : Nat} (hn : num? h = some n) (h0 : n = 0) : h = [48] := by
  unfold num? at hn
  split at hn
  · rename_i c
    obtain ⟨c1, c2⟩ := Bool.and_eq_true_iff.mp c
    obtain ⟨h1, h2⟩ := figs_iff.mp c1
    have ev : val h = 0 := by
      have := Option.some.inj hn
      omega
    cases h with
    | nil => exact absurd rfl h1
    | cons a r =>
      have ha := h2 a List.mem_cons_self
      cases r with
      | nil =>
        have : val [a] = a - 48 := by simp [val, NumText.digitsVal]
        have : a = 48 := by omega
        rw [this]
      | cons b t =>
        exfalso
        have c3 : ((b :: t).length + 1 > 1) := by simp
        have hz : a ≠ 48 := fun z => by
          rw [z] at c2
          simp at c2
        have key : ∀ (l : List Nat) (acc : Nat), 1 ≤ acc → 1 ≤ l.foldl (fun acc c => acc * 10 + (c - 48)) acc := by
          intro l
          induction l with
          | nil => intro acc h; exact h
          | cons c r ih => intro acc h; exact ih _ (by show 1 ≤ acc * 10 + (c - 48); omega)
        have z := key (b :: t) (0 * 10 + (a - 48)) (by omega)
        have e : val (a :: b :: t) = (b :: t).foldl (fun acc c => acc * 10 + (c - 48)) (0 * 10 + (a - 48)) := rfl
        omega
  · cases hn
end Mo
set_option Elab.async false
set_option linter.all false
set_option maxRecDepth 100000
set_option maxHeartbeats 4000000
namespace L3
open PySem PySem.Spec PyProof.Rows L2
/-! ### try .. except (X1, X2, X3) as n -/
theorem flying_keeps {B h h' : Heap} {l : List Env} {a : Addr} {Z : Obj → Prop} (f : HandSPX.FlyingZ B l a Z h) (k : ∀ b o, h.get? b = some o → h'.get? b = some o) : HandSPX.FlyingZ B l a Z h' := by
  obtain ⟨f1, f2, f3, oe, vs, T, oT, ts, g1, g2, g3, g4, g5, g6, g7, g8⟩ := f
  exact ⟨fun b o e => k _ _ (f1 b o e), f2, Heap.FunFrames.of_keeps (fun b o e _ => ⟨o, k _ _ e, rfl⟩) f3, oe, vs, T, oT, ts, k _ _ g1, g2, g3, g4, g5, g6, k _ _ g7, g8⟩
/-- what such a clause wishes of an exception of the body: it is caught; slot i is n's -/
def wTup (K : PySem.W.Frag) (cs : List Value) (i : Nat) (ts : Addr → Value → Option Addr → TS) (D : Ends) : WX := fun cls d σ H =>
  PySem.W.exmAny K cls cs = some true ∧ ∀ a, H a = none → ts a cls d { nx := fun σ' H' => D.nx (σ'.set i none) H', rt := D.rt, bk := fun σ' H' => D.bk (σ'.set i none) H', ct := fun σ' H' => D.ct (σ'.set i none) H' } (σ.set i (some (.ref a))) H
section
variable {X : Cx} {x1 x2 x3 n : Str} {c1 c2 c3 : Value} {i k3 : Nat} {body suite : List Stmt} {b₀ : Stmt} {p1 p2 p3 tp pos pos' : Pos} {tb : WX → TS} {ts : Addr → Value → Option Addr → TS}
theorem ps_try_tup (hs : X.stack = X.env :: X.outer) (hf : X.env.frame = some X.env.locals) (hN : X.N.Nodup) (hi : X.N[i]? = some n) (hln : X.env.kindOf n = some .local)
    (m1 : X.mg x1 = some c1) (m2 : X.mg x2 = some c2) (m3 : X.mg x3 = some c3)
    (hb : ∀ (W : WX) (pn : List (Addr × Obj)) (xe : Value → Shared → Prop), Takes (X.tr pn xe) W → PassesOwn (model X.prog X.w) X.A X.env xe → PSs (X.tr pn xe) body (tb W))
    (hsu : ∀ (a : Addr) (oe : Obj) (cls : Value) (d : Option Addr) (pn : List (Addr × Obj)), Zc cls d oe → (∃ vs, oe.data = .fields vs) → PSs (X.suite a ((a, oe) :: pn)) (b₀ :: suite) (ts a cls d))
    (g1 : Gl X x1 := by rfl) (g2 : Gl X x2 := by rfl) (g3 : Gl X x3 := by rfl) (d1 : (x1 == ("__debug__" : Str)) = false := by decide) (d2 : (x2 == ("__debug__" : Str)) = false := by decide) (d3 : (x3 == ("__debug__" : Str)) = false := by decide) :
    PS X (.Try body [.ExceptHandler (some (.Tuple [.Name x1 p1, .Name x2 p2, .Name x3 p3] k3 tp)) (some n) (b₀ :: suite) pos'] [] [] pos) (fun D σ H => tb (wTup X.K [c1, c2, c3] i ts D) D σ H) := by
  refine ⟨fun pins s σ H D I h => ?_⟩
  have ok := I.ok
  have hfr : X.A.frames = some (X.env :: X.outer) := by rw [ok.frames, hs]
  refine wpAny_Try_except ?_
  refine wpAny_mono ((hb (wTup X.K [c1, c2, c3] i ts D) (X.pn ++ pins) (fun e s₁ => wpAny (model X.prog X.w) X.A (noteFrame e X.env) (fun _ s₂ => wpAny (model X.prog X.w) X.A (setFlight e none) (fun _ s₃ =>
    wpAny (model X.prog X.w) X.A (handleBy e X.env [.ExceptHandler (some (.Tuple [.Name x1 p1, .Name x2 p2, .Name x3 p3] k3 tp)) (some n) (b₀ :: suite) pos']) (SP X pins D) X.xe s₃) X.xe s₂) X.xe s₁) (fun u s' xx => ?_) PassesOwn.looking).run [] s σ H D (I.toTry _) h) (fun f s1 hsp => ?_) (fun e s1 he => he)
  · obtain ⟨a, B, sI, pins', σ', H', cls, d, rfl, J', nb, up, sky, na, os, ag, hb1, hyes⟩ := xx
    have J : Inv X pins σ' H' sI := J'.ofTry ok
    have sky' : Sky B (X.env :: X.outer) a (Zc cls d) X.env.locals s'.heap := by rw [← hs]; exact sky
    show wpAny (model X.prog X.w) X.A (noteFrame (.ref a) X.env) _ _ _
    refine Sky.land Zc.steady hfr hf sky' fun h3 fl3 up3 => ?_
    have J3 : Inv X pins σ' H' { s' with heap := h3 } := J.landed nb fl3.1 (up.trans up3) os ag
    obtain ⟨oe3, vs3, he3, hz3, hd3⟩ := fl3.there
    have nfr : a ∉ frs (X.env :: X.outer) := fun hm => by
      obtain ⟨_, o', e', hnf⟩ := fl3.2.2.1.mem hm
      rw [he3] at e'
      cases e'
      exact hnf _ hd3
    have nL : a ≠ X.env.locals := fun z => nfr (List.mem_filterMap.mpr ⟨X.env, List.mem_cons_self, by rw [hf, z]⟩)
    have nF : a ∉ X.fs := fun hm => by
      obtain ⟨e, he, q⟩ := List.mem_filterMap.mp hm
      exact nfr (List.mem_filterMap.mpr ⟨e, List.mem_cons_of_mem _ he, q⟩)
    have S3 := J3.suite he3 hd3 na nL nF
    refine wpAny_handleBy_cons (codeAny_handlers_test ?_) (by intro q; cases q)
    refine wpAny_Tuple_spliced ?_
    refine Calls.spliced_cons (ld_glob (X := X.suite a ((a, oe3) :: (X.pn ++ pins))) S3 g1 m1 ?_ d1)
    refine Calls.spliced_cons (ld_glob (X := X.suite a ((a, oe3) :: (X.pn ++ pins))) S3 g2 m2 ?_ d2)
    refine Calls.spliced_cons (ld_glob (X := X.suite a ((a, oe3) :: (X.pn ++ pins))) S3 g3 m3 ?_ d3)
    refine Calls.spliced_nil ⟨by show 3 ≤ sizeLine; rw [sizeLine_eq]; decide, ?_⟩
    have kp : ∀ b o, h3.get? b = some o → (h3.push { cls := .type "tuple", data := .seq [c1, c2, c3].toArray }).get? b = some o := fun b o e => Heap.get?_push_of_some _ e
    have LT : PySem.W.Looks (model X.prog X.w) (h3.push { cls := .type "tuple", data := .seq [c1, c2, c3].toArray }) (typeOf (.ref a)) cls := fun A Q E s k q => wpAny_typeOf_ref (k _ _ (kp _ _ he3)) (by rw [hz3.1]; exact q)
    have LM := PySem.W.exm_tup3 (M := model X.prog X.w) (J3.kIn.keeps kp) LT (Heap.get?_push_size _ rfl) hb1
    refine LM.here ?_
    refine codeAny_handlers_suite_as ?_
    refine HandSPX.lands_againZ (flying_keeps fl3 kp) fun h4 fl4 up4 => ?_
    have J4 : Inv X pins σ' H' { s' with heap := h4 } := J.landed nb fl4.1 (((up.trans up3).trans (Heap.UpToSlots.of_keeps kp)).trans up4) os ag
    obtain ⟨oe4, vs4, he4, hz4, hd4⟩ := fl4.there
    have S4 := J4.suite he4 hd4 na nL nF
    refine store_ok (X := X.suite a ((a, oe4) :: (X.pn ++ pins))) (v := .ref a) S4 hN hi (.inl hln) rfl (fun s5 S5 => ?_) (.inr hln)
    refine wpAny_mono ((hsu a oe4 cls d (X.pn ++ pins) hz4 ⟨_, hd4⟩).run [] s5 _ H' _ S5 (hyes a na)) (fun f s6 hsp => ?_) (fun _ _ z => False.elim z)
    have end_ : ∀ {σ6 : L2.St} {H6 : Hp} {Q : Shared → Prop}, Inv (X.suite a ((a, oe4) :: (X.pn ++ pins))) [] σ6 H6 s6 → (∀ s7, Inv X pins (σ6.set i none) H6 s7 → Q s7) →
        wpAny (model X.prog X.w) X.A (do bindName X.env n .none; unbindBehindTheSuite X.env n pos') (fun _ s7 => Q s7) X.xe s6 := fun {σ6 H6 Q} S6 hq => gone_ok (S6.unsuite ok) hN hi hln hq
    cases f with
    | next =>
      obtain ⟨σ6, H6, S6, q6⟩ := hsp
      exact end_ S6 fun s7 J7 => ⟨_, _, J7, q6⟩
    | brk =>
      obtain ⟨σ6, H6, S6, q6⟩ := hsp
      exact end_ S6 fun s7 J7 => ⟨_, _, J7, q6⟩
    | cont =>
      obtain ⟨σ6, H6, S6, q6⟩ := hsp
      exact end_ S6 fun s7 J7 => ⟨_, _, J7, q6⟩
    | ret u =>
      obtain ⟨v6, σ6, H6, S6, r6, q6⟩ := hsp
      exact end_ S6 fun s7 J7 => ⟨_, _, _, J7, r6, q6⟩
  · cases f with
    | next =>
      obtain ⟨σ6, H6, S6, q6⟩ := hsp
      exact wpAny_execs_nil ⟨_, _, S6.ofTry ok, q6⟩
    | brk =>
      obtain ⟨σ6, H6, S6, q6⟩ := hsp
      exact ⟨_, _, S6.ofTry ok, q6⟩
    | cont =>
      obtain ⟨σ6, H6, S6, q6⟩ := hsp
      exact ⟨_, _, S6.ofTry ok, q6⟩
    | ret u =>
      obtain ⟨v6, σ6, H6, S6, r6, q6⟩ := hsp
      exact ⟨_, _, _, S6.ofTry ok, r6, q6⟩
end
/-! ### isinstance(e, ..), e the exception that the suite holds -/
def rIsA (K : PySem.W.Frag) (a : Addr) (cls : Value) (d : Option Addr) : List V → Hp → VK → Prop := fun xs H Q => ∃ (D : Addr) (c : V) (cv : Value) (b : Bool), cls = .ref D ∧ d = none ∧ ExcC K D ∧ xs = [.ref a, c] ∧ ClsV c cv ∧ PySem.W.kitOne K (.ref D) cv = some b ∧ Q (.bl b) H
def rIsAT (K : PySem.W.Frag) (a : Addr) (cls : Value) (d : Option Addr) : List V → Hp → VK → Prop := fun xs H Q => ∃ (D tp : Addr) (cs : List V) (us : List Value) (b : Bool), cls = .ref D ∧ d = none ∧ ExcC K D ∧ xs = [.ref a, .ref tp] ∧ H tp = some (.tup cs) ∧ Paired ClsV cs us ∧ PySem.W.kitAny K (.ref D) us = some b ∧ Q (.bl b) H
section
variable {X : Cx} {a : Addr} {cls : Value} {d : Option Addr} {oe : Obj} {pn : List (Addr × Obj)}
theorem suite_inst {pins : List (Addr × Obj)} {s : Shared} {σ : L2.St} {H : Hp} {D : Addr} (I : Inv (X.suite a ((a, oe) :: pn)) pins σ H s) (hz : Zc (.ref D) none oe) (hf : ∃ vs, oe.data = .fields vs) : PySem.W.InstAt s.heap a oe D none := by
  obtain ⟨hget, _⟩ := I.pin (a, oe) (List.mem_append.mpr (.inl List.mem_cons_self))
  obtain ⟨vs, hv⟩ := hf
  obtain ⟨oc, od, oda, osl⟩ := oe
  obtain ⟨h1, h2⟩ := hz
  dsimp only at h1 h2 hv
  subst h1 h2 hv
  exact ⟨hget, rfl, rfl, trivial⟩
theorem call_isA (hz : Zc cls d oe) (hf : ∃ vs, oe.data = .fields vs) : CallR (X.suite a ((a, oe) :: pn)) (.builtin "isinstance") (rIsA X.K a cls d) := by
  intro pins s σ H xs us Q I r h
  obtain ⟨D, c, cv, b, rfl, rfl, C, rfl, k, e, q⟩ := h
  obtain ⟨u1, u2, rfl, r1, r2⟩ := vals2 r
  have e2 := k.eq r2
  subst e2
  cases (show u1 = Value.ref a from r1)
  exact PySem.W.kia_one (PySem.W.handS_kitx_exc C.hg C.hk C.hs C.hd C.ha C.hn C.ht C.hm) I.kIn (suite_inst I hz hf) e (fun z => nomatch z) fun tk => ⟨.bl b, H, I.kept (t' := tk) fun _ _ z => z, rfl, q⟩
theorem call_isAT (hz : Zc cls d oe) (hf : ∃ vs, oe.data = .fields vs) : CallR (X.suite a ((a, oe) :: pn)) (.builtin "isinstance") (rIsAT X.K a cls d) := by
  intro pins s σ H xs us Q I r h
  obtain ⟨D, tp, cs, ws, b, rfl, rfl, C, rfl, hT, k, e, q⟩ := h
  obtain ⟨u1, u2, rfl, r1, r2⟩ := vals2 r
  cases (show u1 = Value.ref a from r1)
  cases (show u2 = Value.ref tp from r2)
  obtain ⟨_, its, rv, o, h1, h2, n, h3⟩ := (show ObjOk X.prog X.w H s.heap tp (.tup cs) from I.hok tp _ hT)
  have e3 := ClsV.all k rv
  subst e3
  obtain ⟨oc, od, dt, sl⟩ := o
  simp only at h2 h3
  subst h2 h3
  exact PySem.W.kia_tup (PySem.W.handS_kitx_exc C.hg C.hk C.hs C.hd C.ha C.hn C.ht C.hm) I.kIn (suite_inst I hz hf) h1 e (fun z => nomatch z) fun tk => ⟨.bl b, H, I.kept (t' := tk) fun _ _ z => z, rfl, q⟩
end
def excCB (x : Str) : Fx := fun K => He.eqO (PySem.W.findIn K (.ref (He.ga K x)) "__getattribute__") (some (some (.builtin "BaseException.__getattribute__"))) && (He.eqO (PySem.W.findIn K (.ref (He.ga K x)) "__getattr__") (some none) && (decide (PySem.W.subIn K (.ref (He.ga K x)) (.type "BaseException") = some true) && (PySem.W.hasDictIn K (He.ga K x) &&
  (He.eqO (PySem.W.findIn K (.ref (He.ga K x)) "__class__") (some (some (.builtin "object.__class__"))) && (He.eqO (PySem.W.specialIn K (.builtin "object.__class__") "__get__") (some (some (.builtin "getset_descriptor.__get__"))) && (decide (PySem.W.takesIn K (.builtin "object.__class__") = some true) && decide (PySem.W.mroIn K (He.ga K x) (.type "object") = some true)))))))
theorem excC_of {x : Str} {K : PySem.W.Frag} (h : excCB x K = true) : ExcC K (He.ga K x) := by
  obtain ⟨h1, h⟩ := He.ba h
  obtain ⟨h2, h⟩ := He.ba h
  obtain ⟨h3, h⟩ := He.ba h
  obtain ⟨h4, h⟩ := He.ba h
  obtain ⟨h5, h⟩ := He.ba h
  obtain ⟨h6, h⟩ := He.ba h
  obtain ⟨h7, h8⟩ := He.ba h
  exact ⟨He.eqO_ok h1, He.eqO_ok h2, of_decide_eq_true h3, h4, He.eqO_ok h5, He.eqO_ok h6, of_decide_eq_true h7, of_decide_eq_true h8⟩
def kitF (x y : Str) (b : Bool) : Fx := fun K => decide (PySem.W.kitOne K (.ref (He.ga K x)) (.ref (He.ga K y)) = some b)
def kitFT (x : Str) (y : String) (b : Bool) : Fx := fun K => decide (PySem.W.kitOne K (.ref (He.ga K x)) (.type y) = some b)
def exm3F (x : Str) (ys : List Str) : Fx := fun K => decide (PySem.W.exmAny K (.ref (He.ga K x)) (ys.map fun y => .ref (He.ga K y)) = some true)
end L3
set_option Elab.async false
set_option linter.all false
set_option maxRecDepth 100000
set_option maxHeartbeats 4000000
namespace Toy
open PySem PySem.Spec PyProof.Rows L2 L3
def top (i : Nat) : Stmt := PySem.Challenge.pw_shortgoings_k14_texts_of_no_moment.main.body.getD i (.Pass ⟨0, 0, 0, 0⟩)
abbrev s_NoText_init : Stmt := inClass (top 10) 0
abbrev s_is_whole : Stmt := top 18
abbrev s_is_moment : Stmt := top 19
abbrev s_want_moment : Stmt := top 20
abbrev s_want_below : Stmt := top 21
abbrev s_moment_at : Stmt := top 22
abbrev s_are_figures : Stmt := top 23
abbrev s_number_of : Stmt := top 24
abbrev s_day_of : Stmt := top 25
abbrev s_read_moment : Stmt := top 26
abbrev s__law_pot : Stmt := top 28
abbrev s__law_take : Stmt := top 29
abbrev s__law_great : Stmt := top 30
abbrev s__law_signs : Stmt := top 31
abbrev s__law_text : Stmt := top 32
abbrev s__law_spoilt : Stmt := top 33
abbrev s__law_odd : Stmt := top 34
abbrev s__law_is_number : Stmt := top 35
abbrev s__law_read : Stmt := top 36
abbrev s__law_told : Stmt := top 37
abbrev s__law_due : Stmt := top 38
abbrev s_law : Stmt := top 39
theorem sc_NoText_init : FnScope ["self", "row"] ["self", "row"] (defScope s_NoText_init) := ⟨rfl, rfl, rfl, by decide +kernel, rfl, by decide +kernel, by decide +kernel⟩
theorem sc_is_whole : FnScope ["thing"] ["thing"] (defScope s_is_whole) := ⟨rfl, rfl, rfl, by decide +kernel, rfl, by decide +kernel, by decide +kernel⟩
theorem sc_is_moment : FnScope ["thing"] ["thing"] (defScope s_is_moment) := ⟨rfl, rfl, rfl, by decide +kernel, rfl, by decide +kernel, by decide +kernel⟩
theorem sc_want_moment : FnScope ["thing"] ["thing"] (defScope s_want_moment) := ⟨rfl, rfl, rfl, by decide +kernel, rfl, by decide +kernel, by decide +kernel⟩
theorem sc_want_below : FnScope ["thing", "many"] ["thing", "many"] (defScope s_want_below) := ⟨rfl, rfl, rfl, by decide +kernel, rfl, by decide +kernel, by decide +kernel⟩
theorem sc_moment_at : FnScope ["day", "hour", "minute"] ["day", "hour", "minute"] (defScope s_moment_at) := ⟨rfl, rfl, rfl, by decide +kernel, rfl, by decide +kernel, by decide +kernel⟩
theorem sc_are_figures : FnScope ["word", "sign"] ["word"] (defScope s_are_figures) := ⟨rfl, rfl, rfl, by decide +kernel, rfl, by decide +kernel, by decide +kernel⟩
theorem sc_number_of : FnScope ["word"] ["word"] (defScope s_number_of) := ⟨rfl, rfl, rfl, by decide +kernel, rfl, by decide +kernel, by decide +kernel⟩
theorem sc_day_of : FnScope ["word", "day"] ["word"] (defScope s_day_of) := ⟨rfl, rfl, rfl, by decide +kernel, rfl, by decide +kernel, by decide +kernel⟩
theorem sc_read_moment : FnScope ["text", "head", "blank", "clock", "day", "hour", "colon", "minute"] ["text"] (defScope s_read_moment) := ⟨rfl, rfl, rfl, by decide +kernel, rfl, by decide +kernel, by decide +kernel⟩
theorem sc__law_pot : FnScope ["_law_script", "_law_k", "_law_cell"] ["_law_script", "_law_k"] (defScope s__law_pot) := ⟨rfl, rfl, rfl, by decide +kernel, rfl, by decide +kernel, by decide +kernel⟩
theorem sc__law_take : FnScope ["_law_pot_here", "_law_many", "_law_digit"] ["_law_pot_here", "_law_many"] (defScope s__law_take) := ⟨rfl, rfl, rfl, by decide +kernel, rfl, by decide +kernel, by decide +kernel⟩
theorem sc__law_great : FnScope ["_law_pot_here", "_law_bound", "_law_found", "_law_k"] ["_law_pot_here", "_law_bound"] (defScope s__law_great) := ⟨rfl, rfl, rfl, by decide +kernel, rfl, by decide +kernel, by decide +kernel⟩
theorem sc__law_signs : FnScope ["_law_letters"] [] (defScope s__law_signs) := ⟨rfl, rfl, rfl, by decide +kernel, rfl, by decide +kernel, by decide +kernel⟩
theorem sc__law_text : FnScope ["_law_pot_here", "_law_way", "_law_day", "_law_left", "_law_text_here"] ["_law_pot_here"] (defScope s__law_text) := ⟨rfl, rfl, rfl, by decide +kernel, rfl, by decide +kernel, by decide +kernel⟩
theorem sc__law_spoilt : FnScope ["_law_pot_here", "_law_text_here", "_law_way", "_law_signs_here", "_law_sign", "_law_at", "_law_turned"] ["_law_pot_here", "_law_text_here"] (defScope s__law_spoilt) := ⟨rfl, rfl, rfl, by decide +kernel, rfl, by decide +kernel, by decide +kernel⟩
theorem sc__law_odd : FnScope ["_law_pot_here", "_law_some"] ["_law_pot_here"] (defScope s__law_odd) := ⟨rfl, rfl, rfl, by decide +kernel, rfl, by decide +kernel, by decide +kernel⟩
theorem sc__law_is_number : FnScope ["_law_word", "_law_sign"] ["_law_word"] (defScope s__law_is_number) := ⟨rfl, rfl, rfl, by decide +kernel, rfl, by decide +kernel, by decide +kernel⟩
theorem sc__law_read : FnScope ["_law_text_here", "_law_words", "_law_day", "_law_parts", "_law_sign"] ["_law_text_here"] (defScope s__law_read) := ⟨rfl, rfl, rfl, by decide +kernel, rfl, by decide +kernel, by decide +kernel⟩
theorem sc__law_told : FnScope ["_law_text_here", "_law_found", "e", "_law_strange"] ["_law_text_here"] (defScope s__law_told) := ⟨rfl, rfl, rfl, by decide +kernel, rfl, by decide +kernel, by decide +kernel⟩
theorem sc__law_due : FnScope ["_law_text_here", "_law_moment"] ["_law_text_here"] (defScope s__law_due) := ⟨rfl, rfl, rfl, by decide +kernel, rfl, by decide +kernel, by decide +kernel⟩
theorem sc_law : FnScope ["_law_script", "_law_k", "_law_pot_here", "_law_way", "_law_good", "_law_text_here", "_law_turn", "_law_some"] ["_law_script"] (defScope s_law) := ⟨rfl, rfl, rfl, by decide +kernel, rfl, by decide +kernel, by decide +kernel⟩
structure Env (K : PySem.W.Frag) (mg : Str → Option Value) : Prop where
  g_is_whole : mg "is_whole" = some (.ref (He.ga K "is_whole"))
  g_is_moment : mg "is_moment" = some (.ref (He.ga K "is_moment"))
  g_want_moment : mg "want_moment" = some (.ref (He.ga K "want_moment"))
  g_want_below : mg "want_below" = some (.ref (He.ga K "want_below"))
  g_moment_at : mg "moment_at" = some (.ref (He.ga K "moment_at"))
  g_are_figures : mg "are_figures" = some (.ref (He.ga K "are_figures"))
  g_number_of : mg "number_of" = some (.ref (He.ga K "number_of"))
  g_day_of : mg "day_of" = some (.ref (He.ga K "day_of"))
  g_read_moment : mg "read_moment" = some (.ref (He.ga K "read_moment"))
  g__law_pot : mg "_law_pot" = some (.ref (He.ga K "_law_pot"))
  g__law_take : mg "_law_take" = some (.ref (He.ga K "_law_take"))
  g__law_great : mg "_law_great" = some (.ref (He.ga K "_law_great"))
  g__law_signs : mg "_law_signs" = some (.ref (He.ga K "_law_signs"))
  g__law_text : mg "_law_text" = some (.ref (He.ga K "_law_text"))
  g__law_spoilt : mg "_law_spoilt" = some (.ref (He.ga K "_law_spoilt"))
  g__law_odd : mg "_law_odd" = some (.ref (He.ga K "_law_odd"))
  g__law_is_number : mg "_law_is_number" = some (.ref (He.ga K "_law_is_number"))
  g__law_read : mg "_law_read" = some (.ref (He.ga K "_law_read"))
  g__law_told : mg "_law_told" = some (.ref (He.ga K "_law_told"))
  g__law_due : mg "_law_due" = some (.ref (He.ga K "_law_due"))
  g_law : mg "law" = some (.ref (He.ga K "law"))
  v_HOUR : ∃ u, mg "HOUR" = some u ∧ RelV (.int (60)) u
  v_DAY : ∃ u, mg "DAY" = some u ∧ RelV (.int (1440)) u
  v_HOURS : ∃ u, mg "HOURS" = some u ∧ RelV (.int (24)) u
  v_FIGURES : ∃ u, mg "FIGURES" = some u ∧ RelV (.str "0123456789") u
  v_COLON : ∃ u, mg "COLON" = some u ∧ RelV (.str ":") u
  v_BLANK : ∃ u, mg "BLANK" = some u ∧ RelV (.str " ") u
  n_ValueError : mg "ValueError" = none
  n_all : mg "all" = none
  n_bool : mg "bool" = none
  n_divmod : mg "divmod" = none
  n_int : mg "int" = none
  n_isinstance : mg "isinstance" = none
  n_len : mg "len" = none
  n_max : mg "max" = none
  n_min : mg "min" = none
  n_range : mg "range" = none
  n_repr : mg "repr" = none
  n_str : mg "str" = none
  g_GoingError : mg "GoingError" = some (.ref (He.ga K "GoingError"))
  x_GoingError : Exo K (He.ga K "GoingError") bmV "ValueError.__new__"
  g_LackError : mg "LackError" = some (.ref (He.ga K "LackError"))
  x_LackError : Exo K (He.ga K "LackError") bmL "LookupError.__new__"
  g_BookError : mg "BookError" = some (.ref (He.ga K "BookError"))
  x_BookError : Exo K (He.ga K "BookError") bmR "RuntimeError.__new__"
  g_NoTime : mg "NoTime" = some (.ref (He.ga K "NoTime"))
  x_NoTime : Exo K (He.ga K "NoTime") bmV "ValueError.__new__"
  g_NoPiece : mg "NoPiece" = some (.ref (He.ga K "NoPiece"))
  x_NoPiece : Exo K (He.ga K "NoPiece") bmV "ValueError.__new__"
  g_NoDays : mg "NoDays" = some (.ref (He.ga K "NoDays"))
  x_NoDays : Exo K (He.ga K "NoDays") bmV "ValueError.__new__"
  g_NoCard : mg "NoCard" = some (.ref (He.ga K "NoCard"))
  x_NoCard : Exo K (He.ga K "NoCard") bmV "ValueError.__new__"
  g_NoName : mg "NoName" = some (.ref (He.ga K "NoName"))
  x_NoName : Exo K (He.ga K "NoName") bmV "ValueError.__new__"
  g_NoRow : mg "NoRow" = some (.ref (He.ga K "NoRow"))
  x_NoRow : Exo K (He.ga K "NoRow") bmV "ValueError.__new__"
  g_NoText : mg "NoText" = some (.ref (He.ga K "NoText"))
  xc_NoTime : ExcC K (He.ga K "NoTime")
  kit_NoTime_GoingError : PySem.W.kitOne K (.ref (He.ga K "NoTime")) (.ref (He.ga K "GoingError")) = some true
  kit_NoTime_LackError : PySem.W.kitOne K (.ref (He.ga K "NoTime")) (.ref (He.ga K "LackError")) = some false
  kit_NoTime_BookError : PySem.W.kitOne K (.ref (He.ga K "NoTime")) (.ref (He.ga K "BookError")) = some false
  kit_NoTime_NoTime : PySem.W.kitOne K (.ref (He.ga K "NoTime")) (.ref (He.ga K "NoTime")) = some true
  kit_NoTime_NoPiece : PySem.W.kitOne K (.ref (He.ga K "NoTime")) (.ref (He.ga K "NoPiece")) = some false
  kit_NoTime_NoDays : PySem.W.kitOne K (.ref (He.ga K "NoTime")) (.ref (He.ga K "NoDays")) = some false
  kit_NoTime_NoCard : PySem.W.kitOne K (.ref (He.ga K "NoTime")) (.ref (He.ga K "NoCard")) = some false
  kit_NoTime_NoName : PySem.W.kitOne K (.ref (He.ga K "NoTime")) (.ref (He.ga K "NoName")) = some false
  kit_NoTime_NoRow : PySem.W.kitOne K (.ref (He.ga K "NoTime")) (.ref (He.ga K "NoRow")) = some false
  kit_NoTime_NoText : PySem.W.kitOne K (.ref (He.ga K "NoTime")) (.ref (He.ga K "NoText")) = some false
  kit_NoTime_ValueError : PySem.W.kitOne K (.ref (He.ga K "NoTime")) (.type "ValueError") = some true
  kit_NoTime_LookupError : PySem.W.kitOne K (.ref (He.ga K "NoTime")) (.type "LookupError") = some false
  kit_NoTime_RuntimeError : PySem.W.kitOne K (.ref (He.ga K "NoTime")) (.type "RuntimeError") = some false
  exm_NoTime : PySem.W.exmAny K (.ref (He.ga K "NoTime")) [.ref (He.ga K "GoingError"), .ref (He.ga K "LackError"), .ref (He.ga K "BookError")] = some true
  f_NoText_init : ∃ fd, FunD K "__init__" "NoText.__init__" (defArgs s_NoText_init) (defBody s_NoText_init) (defScope s_NoText_init) [] [] (He.ma K (He.ga K "NoText") "__init__") fd
  f_is_whole : ∃ fd, FunD K "is_whole" "is_whole" (defArgs s_is_whole) (defBody s_is_whole) (defScope s_is_whole) [] [] (He.ga K "is_whole") fd
  f_is_moment : ∃ fd, FunD K "is_moment" "is_moment" (defArgs s_is_moment) (defBody s_is_moment) (defScope s_is_moment) [] [] (He.ga K "is_moment") fd
  f_want_moment : ∃ fd, FunD K "want_moment" "want_moment" (defArgs s_want_moment) (defBody s_want_moment) (defScope s_want_moment) [] [] (He.ga K "want_moment") fd
  f_want_below : ∃ fd, FunD K "want_below" "want_below" (defArgs s_want_below) (defBody s_want_below) (defScope s_want_below) [] [] (He.ga K "want_below") fd
  f_moment_at : ∃ fd, FunD K "moment_at" "moment_at" (defArgs s_moment_at) (defBody s_moment_at) (defScope s_moment_at) [.int (0), .int (0), .int (0)] [] (He.ga K "moment_at") fd
  f_are_figures : ∃ fd, FunD K "are_figures" "are_figures" (defArgs s_are_figures) (defBody s_are_figures) (defScope s_are_figures) [] [] (He.ga K "are_figures") fd
  f_number_of : ∃ fd, FunD K "number_of" "number_of" (defArgs s_number_of) (defBody s_number_of) (defScope s_number_of) [] [] (He.ga K "number_of") fd
  f_day_of : ∃ fd, FunD K "day_of" "day_of" (defArgs s_day_of) (defBody s_day_of) (defScope s_day_of) [] [] (He.ga K "day_of") fd
  f_read_moment : ∃ fd, FunD K "read_moment" "read_moment" (defArgs s_read_moment) (defBody s_read_moment) (defScope s_read_moment) [] [] (He.ga K "read_moment") fd
  f__law_pot : ∃ fd, FunD K "_law_pot" "_law_pot" (defArgs s__law_pot) (defBody s__law_pot) (defScope s__law_pot) [] [] (He.ga K "_law_pot") fd
  f__law_take : ∃ fd, FunD K "_law_take" "_law_take" (defArgs s__law_take) (defBody s__law_take) (defScope s__law_take) [] [] (He.ga K "_law_take") fd
  f__law_great : ∃ fd, FunD K "_law_great" "_law_great" (defArgs s__law_great) (defBody s__law_great) (defScope s__law_great) [] [] (He.ga K "_law_great") fd
  f__law_signs : ∃ fd, FunD K "_law_signs" "_law_signs" (defArgs s__law_signs) (defBody s__law_signs) (defScope s__law_signs) [] [] (He.ga K "_law_signs") fd
  f__law_text : ∃ fd, FunD K "_law_text" "_law_text" (defArgs s__law_text) (defBody s__law_text) (defScope s__law_text) [] [] (He.ga K "_law_text") fd
  f__law_spoilt : ∃ fd, FunD K "_law_spoilt" "_law_spoilt" (defArgs s__law_spoilt) (defBody s__law_spoilt) (defScope s__law_spoilt) [] [] (He.ga K "_law_spoilt") fd
  f__law_odd : ∃ fd, FunD K "_law_odd" "_law_odd" (defArgs s__law_odd) (defBody s__law_odd) (defScope s__law_odd) [] [] (He.ga K "_law_odd") fd
  f__law_is_number : ∃ fd, FunD K "_law_is_number" "_law_is_number" (defArgs s__law_is_number) (defBody s__law_is_number) (defScope s__law_is_number) [] [] (He.ga K "_law_is_number") fd
  f__law_read : ∃ fd, FunD K "_law_read" "_law_read" (defArgs s__law_read) (defBody s__law_read) (defScope s__law_read) [] [] (He.ga K "_law_read") fd
  f__law_told : ∃ fd, FunD K "_law_told" "_law_told" (defArgs s__law_told) (defBody s__law_told) (defScope s__law_told) [] [] (He.ga K "_law_told") fd
  f__law_due : ∃ fd, FunD K "_law_due" "_law_due" (defArgs s__law_due) (defBody s__law_due) (defScope s__law_due) [] [] (He.ga K "_law_due") fd
  f_law : ∃ fd, FunD K "law" "law" (defArgs s_law) (defBody s_law) (defScope s_law) [] [] (He.ga K "law") fd
end Toy
namespace Toy
open PySem PySem.Spec PyProof.Rows L2 L3
theorem Env.k_NoText_init {K : PySem.W.Frag} {mg : Str → Option Value} (T : Env K mg) : PySem.W.keepIn K (.ref (He.ma K (He.ga K "NoText") "__init__")) = true := let ⟨_, F⟩ := T.f_NoText_init; F.kp
theorem Env.k_is_whole {K : PySem.W.Frag} {mg : Str → Option Value} (T : Env K mg) : PySem.W.keepIn K (.ref (He.ga K "is_whole")) = true := let ⟨_, F⟩ := T.f_is_whole; F.kp
theorem Env.k_is_moment {K : PySem.W.Frag} {mg : Str → Option Value} (T : Env K mg) : PySem.W.keepIn K (.ref (He.ga K "is_moment")) = true := let ⟨_, F⟩ := T.f_is_moment; F.kp
theorem Env.k_want_moment {K : PySem.W.Frag} {mg : Str → Option Value} (T : Env K mg) : PySem.W.keepIn K (.ref (He.ga K "want_moment")) = true := let ⟨_, F⟩ := T.f_want_moment; F.kp
theorem Env.k_want_below {K : PySem.W.Frag} {mg : Str → Option Value} (T : Env K mg) : PySem.W.keepIn K (.ref (He.ga K "want_below")) = true := let ⟨_, F⟩ := T.f_want_below; F.kp
theorem Env.k_moment_at {K : PySem.W.Frag} {mg : Str → Option Value} (T : Env K mg) : PySem.W.keepIn K (.ref (He.ga K "moment_at")) = true := let ⟨_, F⟩ := T.f_moment_at; F.kp
theorem Env.k_are_figures {K : PySem.W.Frag} {mg : Str → Option Value} (T : Env K mg) : PySem.W.keepIn K (.ref (He.ga K "are_figures")) = true := let ⟨_, F⟩ := T.f_are_figures; F.kp
theorem Env.k_number_of {K : PySem.W.Frag} {mg : Str → Option Value} (T : Env K mg) : PySem.W.keepIn K (.ref (He.ga K "number_of")) = true := let ⟨_, F⟩ := T.f_number_of; F.kp
theorem Env.k_day_of {K : PySem.W.Frag} {mg : Str → Option Value} (T : Env K mg) : PySem.W.keepIn K (.ref (He.ga K "day_of")) = true := let ⟨_, F⟩ := T.f_day_of; F.kp
theorem Env.k_read_moment {K : PySem.W.Frag} {mg : Str → Option Value} (T : Env K mg) : PySem.W.keepIn K (.ref (He.ga K "read_moment")) = true := let ⟨_, F⟩ := T.f_read_moment; F.kp
theorem Env.k__law_pot {K : PySem.W.Frag} {mg : Str → Option Value} (T : Env K mg) : PySem.W.keepIn K (.ref (He.ga K "_law_pot")) = true := let ⟨_, F⟩ := T.f__law_pot; F.kp
theorem Env.k__law_take {K : PySem.W.Frag} {mg : Str → Option Value} (T : Env K mg) : PySem.W.keepIn K (.ref (He.ga K "_law_take")) = true := let ⟨_, F⟩ := T.f__law_take; F.kp
theorem Env.k__law_great {K : PySem.W.Frag} {mg : Str → Option Value} (T : Env K mg) : PySem.W.keepIn K (.ref (He.ga K "_law_great")) = true := let ⟨_, F⟩ := T.f__law_great; F.kp
theorem Env.k__law_signs {K : PySem.W.Frag} {mg : Str → Option Value} (T : Env K mg) : PySem.W.keepIn K (.ref (He.ga K "_law_signs")) = true := let ⟨_, F⟩ := T.f__law_signs; F.kp
theorem Env.k__law_text {K : PySem.W.Frag} {mg : Str → Option Value} (T : Env K mg) : PySem.W.keepIn K (.ref (He.ga K "_law_text")) = true := let ⟨_, F⟩ := T.f__law_text; F.kp
theorem Env.k__law_spoilt {K : PySem.W.Frag} {mg : Str → Option Value} (T : Env K mg) : PySem.W.keepIn K (.ref (He.ga K "_law_spoilt")) = true := let ⟨_, F⟩ := T.f__law_spoilt; F.kp
theorem Env.k__law_odd {K : PySem.W.Frag} {mg : Str → Option Value} (T : Env K mg) : PySem.W.keepIn K (.ref (He.ga K "_law_odd")) = true := let ⟨_, F⟩ := T.f__law_odd; F.kp
theorem Env.k__law_is_number {K : PySem.W.Frag} {mg : Str → Option Value} (T : Env K mg) : PySem.W.keepIn K (.ref (He.ga K "_law_is_number")) = true := let ⟨_, F⟩ := T.f__law_is_number; F.kp
theorem Env.k__law_read {K : PySem.W.Frag} {mg : Str → Option Value} (T : Env K mg) : PySem.W.keepIn K (.ref (He.ga K "_law_read")) = true := let ⟨_, F⟩ := T.f__law_read; F.kp
theorem Env.k__law_told {K : PySem.W.Frag} {mg : Str → Option Value} (T : Env K mg) : PySem.W.keepIn K (.ref (He.ga K "_law_told")) = true := let ⟨_, F⟩ := T.f__law_told; F.kp
theorem Env.k__law_due {K : PySem.W.Frag} {mg : Str → Option Value} (T : Env K mg) : PySem.W.keepIn K (.ref (He.ga K "_law_due")) = true := let ⟨_, F⟩ := T.f__law_due; F.kp
theorem Env.k_law {K : PySem.W.Frag} {mg : Str → Option Value} (T : Env K mg) : PySem.W.keepIn K (.ref (He.ga K "law")) = true := let ⟨_, F⟩ := T.f_law; F.kp
section
def sp_is_whole (K : PySem.W.Frag) : Sp := fun vs H Q _ => ∃ x, vs = [x] ∧ Cl K H x ∧ Q (.bl (isW x)) H
theorem fb_is_whole {P : Program} {w : World} {K : PySem.W.Frag} {mg : Str → Option Value} {base : Heap} (T : Env K mg) : ∃ fd, FunD K "is_whole" "is_whole" (defArgs s_is_whole) (defBody s_is_whole) (defScope s_is_whole) [] [] (He.ga K "is_whole") fd ∧ Fb P w K mg base 1 (He.ga K "is_whole") fd ["thing"] (sp_is_whole K) := by
  obtain ⟨fd, F⟩ := T.f_is_whole
  refine ⟨fd, F, fb_of F sc_is_whole (fun vs H Q E h => ?_) (fun cdv A outer s H vs Q E hr h => ?_)⟩
  · obtain ⟨x, rfl, _⟩ := h
    rfl
  · obtain ⟨x, rfl, ⟨t, b, c, ty, h1, h2, e⟩, q⟩ := h
    refine ⟨_, (pss_one (ps_ret (pe_and (pe_callB call_isi (by rfl) T.n_isinstance (by decide +kernel) (pa_cons (pv 0) (pa_cons (pe_bltn (v := .ty "int") (by rfl) T.n_int (by decide +kernel) rfl) pa_nil))) (pe_one (pe_not (pe_callB call_isi (by rfl) T.n_isinstance (by decide +kernel) (pa_cons (pv 0) (pa_cons (pe_bltn (v := .ty "bool") (by rfl) T.n_bool (by decide +kernel) rfl) pa_nil)))))))), ?_⟩
    refine ⟨x, rfl, x, .ty "int", t, _, b, rfl, .ty "int", ty, h1, b, rfl, ?_⟩
    rw [e] at q
    cases b with
    | false => exact q
    | true => exact ⟨x, rfl, x, .ty "bool", t, _, c, rfl, .ty "bool", ty, h2, c, rfl, q⟩

theorem ok_is_whole {P : Program} {w : World} {K : PySem.W.Frag} {mg : Str → Option Value} {base : Heap} (T : Env K mg) : Fc P w K mg base 1 (He.ga K "is_whole") [] (sp_is_whole K) := by
  obtain ⟨fd, D, F⟩ := fb_is_whole T
  exact F.all (D.bindsN fun _ _ _ _ _ _ us hl => match us, hl with | [_], _ => rfl)
end
section
def sp_is_moment (K : PySem.W.Frag) : Sp := fun vs H Q _ => ∃ x, vs = [x] ∧ Cl K H x ∧ Q (.bl (isM x)) H
theorem fb_is_moment {P : Program} {w : World} {K : PySem.W.Frag} {mg : Str → Option Value} {base : Heap} (T : Env K mg) : ∃ fd, FunD K "is_moment" "is_moment" (defArgs s_is_moment) (defBody s_is_moment) (defScope s_is_moment) [] [] (He.ga K "is_moment") fd ∧ Fb P w K mg base 2 (He.ga K "is_moment") fd ["thing"] (sp_is_moment K) := by
  obtain ⟨fd, F⟩ := T.f_is_moment
  refine ⟨fd, F, fb_of F sc_is_moment (fun vs H Q E h => ?_) (fun cdv A outer s H vs Q E hr h => ?_)⟩
  · obtain ⟨x, rfl, _⟩ := h
    rfl
  · obtain ⟨x, rfl, cl, q⟩ := h
    refine ⟨_, (pss_one (ps_ret (pe_and (c_call (ok_is_whole T) (hr.mono (by decide)) T.g_is_whole T.k_is_whole takes0 (pa_cons (pv 0) pa_nil)) (pe_one (pe_cmpR op_ge (pv 0) pe_int (nomark _)))))), ?_⟩
    refine ⟨x, rfl, x, rfl, cl, isW x, rfl, ?_⟩
    cases x with
    | int i => exact ⟨_, rfl, i, 0, rfl, rfl, q⟩
    | _ => exact q

theorem ok_is_moment {P : Program} {w : World} {K : PySem.W.Frag} {mg : Str → Option Value} {base : Heap} (T : Env K mg) : Fc P w K mg base 2 (He.ga K "is_moment") [] (sp_is_moment K) := by
  obtain ⟨fd, D, F⟩ := fb_is_moment T
  exact F.all (D.bindsN fun _ _ _ _ _ _ us hl => match us, hl with | [_], _ => rfl)
end
section
def sp_want_moment (K : PySem.W.Frag) : Sp := fun vs H Q E => ∃ x, vs = [x] ∧ Cl K H x ∧ (isM x = true → Q .non H) ∧ (isM x = false → E (.ref (He.ga K "NoTime")) none H)
theorem fb_want_moment {P : Program} {w : World} {K : PySem.W.Frag} {mg : Str → Option Value} {base : Heap} (T : Env K mg) : ∃ fd, FunD K "want_moment" "want_moment" (defArgs s_want_moment) (defBody s_want_moment) (defScope s_want_moment) [] [] (He.ga K "want_moment") fd ∧ Fb P w K mg base 3 (He.ga K "want_moment") fd ["thing"] (sp_want_moment K) := by
  obtain ⟨fd, F⟩ := T.f_want_moment
  refine ⟨fd, F, fb_of F sc_want_moment (fun vs H Q E h => ?_) (fun cdv A outer s H vs Q E hr h => ?_)⟩
  · obtain ⟨x, rfl, _⟩ := h
    rfl
  · obtain ⟨x, rfl, cl, q, qe⟩ := h
    refine ⟨_, (pss_one (ps_if (pt_not (pt_val (c_call (ok_is_moment T) (hr.mono (by decide)) T.g_is_moment T.k_is_moment (takes_of rfl rfl rfl rfl) (pa_cons (pv 0) pa_nil))))
      (pss_one (ps_raise rfl (takes_of rfl rfl rfl rfl) (pmk_own PySem.F.excBase_ValueError T.x_NoTime.x T.g_NoTime T.x_NoTime.kp (raises_own T.x_NoTime.sub T.x_NoTime.ty) rfl)))
      pss_nil)), ?_⟩
    refine ⟨x, rfl, x, rfl, cl, isM x, rfl, ?_⟩
    cases e : isM x with
    | true => exact q e
    | false => exact qe e

theorem ok_want_moment {P : Program} {w : World} {K : PySem.W.Frag} {mg : Str → Option Value} {base : Heap} (T : Env K mg) : Fc P w K mg base 3 (He.ga K "want_moment") [] (sp_want_moment K) := by
  obtain ⟨fd, D, F⟩ := fb_want_moment T
  exact F.all (D.bindsN fun _ _ _ _ _ _ us hl => match us, hl with | [_], _ => rfl)
end
section
def sp_want_below (K : PySem.W.Frag) : Sp := fun vs H Q E => ∃ x n, vs = [x, .int n] ∧ Cl K H x ∧ (isB n x = true → Q .non H) ∧ (isB n x = false → E (.ref (He.ga K "NoTime")) none H)
theorem fb_want_below {P : Program} {w : World} {K : PySem.W.Frag} {mg : Str → Option Value} {base : Heap} (T : Env K mg) : ∃ fd, FunD K "want_below" "want_below" (defArgs s_want_below) (defBody s_want_below) (defScope s_want_below) [] [] (He.ga K "want_below") fd ∧ Fb P w K mg base 4 (He.ga K "want_below") fd ["thing", "many"] (sp_want_below K) := by
  obtain ⟨fd, F⟩ := T.f_want_below
  refine ⟨fd, F, fb_of F sc_want_below (fun vs H Q E h => ?_) (fun cdv A outer s H vs Q E hr h => ?_)⟩
  · obtain ⟨x, n, rfl, _⟩ := h
    rfl
  · obtain ⟨x, n, rfl, cl, q, qe⟩ := h
    refine ⟨_, (pss_cons (ps_expr (c_call (ok_want_moment T) (hr.mono (by decide)) T.g_want_moment T.k_want_moment (takes_of rfl rfl rfl rfl) (pa_cons (pv 0) pa_nil)))
      (pss_one (ps_if (pt_cmpR op_ge (pv 0) (pv 1) (nomark _))
      (pss_one (ps_raise rfl (takes_of rfl rfl rfl rfl) (pmk_own PySem.F.excBase_ValueError T.x_NoTime.x T.g_NoTime T.x_NoTime.kp (raises_own T.x_NoTime.sub T.x_NoTime.ty) rfl)))
      pss_nil))), ?_⟩
    refine ⟨x, rfl, x, rfl, cl, fun e => ?_, fun e => ?_⟩
    · obtain ⟨i, rfl, hi⟩ := isM_w e
      refine ⟨_, rfl, _, rfl, i, n, rfl, rfl, _, rfl, ite2 (fun c => ?_) (fun c => ?_)⟩
      · have c2 : n ≤ i := of_decide_eq_true c
        exact qe (show (decide (0 ≤ i) && decide (i < n)) = false by rw [decide_eq_false (show ¬ i < n by omega), Bool.and_false])
      · have c2 : ¬ n ≤ i := fun z => c (decide_eq_true z)
        exact q (show (decide (0 ≤ i) && decide (i < n)) = true by rw [decide_eq_true hi, decide_eq_true (show i < n by omega)]; rfl)
    · refine qe ?_
      cases x with
      | int i => exact (show (decide (0 ≤ i) && decide (i < n)) = false by rw [show decide (0 ≤ i) = false from e]; rfl)
      | _ => rfl

theorem ok_want_below {P : Program} {w : World} {K : PySem.W.Frag} {mg : Str → Option Value} {base : Heap} (T : Env K mg) : Fc P w K mg base 4 (He.ga K "want_below") [] (sp_want_below K) := by
  obtain ⟨fd, D, F⟩ := fb_want_below T
  exact F.all (D.bindsN fun _ _ _ _ _ _ us hl => match us, hl with | [_, _], _ => rfl)
end
section
/-- what moment_at tells -/
def isMA (a b c : V) : Bool := isM a && (isB 24 b && isB 60 c)
def sp_moment_at (K : PySem.W.Frag) : Sp := fun vs H Q E => ∃ a b c, vs = [a, b, c] ∧ Cl K H a ∧ Cl K H b ∧ Cl K H c ∧ (∀ d h m : Int, a = .int d → b = .int h → c = .int m → isMA a b c = true → Q (.int (d * 1440 + h * 60 + m)) H) ∧ (isMA a b c = false → E (.ref (He.ga K "NoTime")) none H)
theorem fb_moment_at {P : Program} {w : World} {K : PySem.W.Frag} {mg : Str → Option Value} {base : Heap} (T : Env K mg) : ∃ fd, FunD K "moment_at" "moment_at" (defArgs s_moment_at) (defBody s_moment_at) (defScope s_moment_at) [.int (0), .int (0), .int (0)] [] (He.ga K "moment_at") fd ∧ Fb P w K mg base 5 (He.ga K "moment_at") fd ["day", "hour", "minute"] (sp_moment_at K) := by
  obtain ⟨fd, F⟩ := T.f_moment_at
  refine ⟨fd, F, fb_of F sc_moment_at (fun vs H Q E h => ?_) (fun cdv A outer s H vs Q E hr h => ?_)⟩
  · obtain ⟨a, b, c, rfl, _⟩ := h
    rfl
  · obtain ⟨a, b, c, rfl, ca, cb, cc, q, qe⟩ := h
    refine ⟨_, (pss_cons (ps_expr (c_call (ok_want_moment T) (hr.mono (by decide)) T.g_want_moment T.k_want_moment (takes_of rfl rfl rfl rfl) (pa_cons (pv 0) pa_nil)))
      (pss_cons (ps_expr (c_call (ok_want_below T) (hr.mono (by decide)) T.g_want_below T.k_want_below (takes_of rfl rfl rfl rfl) (pa_cons (pv 1) (pa_cons (pe_k T.v_HOURS) pa_nil))))
      (pss_cons (ps_expr (c_call (ok_want_below T) (hr.mono (by decide)) T.g_want_below T.k_want_below (takes_of rfl rfl rfl rfl) (pa_cons (pv 2) (pa_cons (pe_k T.v_HOUR) pa_nil))))
      (pss_one (ps_ret (pe_op op_add (pe_op op_add (pe_op op_mul (pv 0) (pe_k T.v_DAY)) (pe_op op_mul (pv 1) (pe_k T.v_HOUR))) (pv 2))))))), ?_⟩
    refine ⟨a, rfl, a, rfl, ca, fun ea => ?_, fun ea => qe (by unfold isMA; rw [ea]; rfl)⟩
    refine ⟨b, rfl, b, 24, rfl, cb, fun eb => ?_, fun eb => qe (by unfold isMA; rw [ea, eb]; rfl)⟩
    refine ⟨c, rfl, c, 60, rfl, cc, fun ec => ?_, fun ec => qe (by unfold isMA; rw [ea, eb, ec]; rfl)⟩
    cases a with
    | int d =>
      cases b with
      | int h =>
        cases c with
        | int m =>
          refine ⟨_, rfl, _, _, rfl, rfl, .inr (by decide), _, rfl, _, _, rfl, rfl, .inr (by decide), _, _, rfl, rfl, _, rfl, _, _, rfl, rfl, ?_⟩
          exact q d h m rfl rfl rfl (by unfold isMA; rw [ea, eb, ec]; rfl)
        | _ => cases ec
      | _ => cases eb
    | _ => cases ea
theorem ma_good {K : PySem.W.Frag} {H : Hp} {Q : VK} {E : XK} {d h m : Int} (d0 : 0 ≤ d) (h0 : 0 ≤ h) (h1 : h < 24) (m0 : 0 ≤ m) (m1 : m < 60) (q : Q (.int (d * 1440 + h * 60 + m)) H) : sp_moment_at K [.int d, .int h, .int m] H Q E := by
  have e : isMA (.int d) (.int h) (.int m) = true := by
    show (decide (0 ≤ d) && ((decide (0 ≤ h) && decide (h < 24)) && (decide (0 ≤ m) && decide (m < 60)))) = true
    rw [decide_eq_true d0, decide_eq_true h0, decide_eq_true h1, decide_eq_true m0, decide_eq_true m1]
    rfl
  exact ⟨_, _, _, rfl, cl_int _, cl_int _, cl_int _, fun _ _ _ e1 e2 e3 _ => by cases e1; cases e2; cases e3; exact q, fun z => absurd (e.symm.trans z) Bool.noConfusion⟩

theorem ok_moment_at {P : Program} {w : World} {K : PySem.W.Frag} {mg : Str → Option Value} {base : Heap} (T : Env K mg) : Fc P w K mg base 5 (He.ga K "moment_at") [] (fun vs H Q E => vs.length = 3 + ([] : List Str).length ∧ sp_moment_at K (pick [.inl 0, .inl 1, .inl 2] vs [.int (0), .int (0), .int (0)]) H Q E) := by
  obtain ⟨fd, D, F⟩ := fb_moment_at T
  exact Fb.shape D F 3 [] (fun us its => pick [.inl 0, .inl 1, .inl 2] us its) (by decide) (fun r1 r2 => pick_vals _ r1 r2) (fun T kV doc pm an cdv ct us ws its h1 h2 h3 => match us, ws, its, h1, h2, h3 with | [_, _, _], [], [_, _, _], _, _, _ => ⟨_, rfl, rfl⟩)
end
section
theorem fig_in (c : Nat) : decide (c ∈ (Str.ofString "0123456789").cps.toList) = Mo.isFig c := by
  have e : (Str.ofString "0123456789").cps.toList = [48, 49, 50, 51, 52, 53, 54, 55, 56, 57] := rfl
  rw [e]
  unfold Mo.isFig
  rw [← Bool.decide_and]
  apply decide_eq_decide.mpr
  simp only [List.mem_cons, List.not_mem_nil, or_false]
  omega
def sp_are_figures (K : PySem.W.Frag) : Sp := fun vs H Q _ => ∃ l : List Nat, vs = [.str (SX.S l)] ∧ l.length ≤ 100000 ∧ ∀ H', Ex H H' → Q (.bl (Mo.figs l)) H'
theorem fb_are_figures {P : Program} {w : World} {K : PySem.W.Frag} {mg : Str → Option Value} {base : Heap} (T : Env K mg) : ∃ fd, FunD K "are_figures" "are_figures" (defArgs s_are_figures) (defBody s_are_figures) (defScope s_are_figures) [] [] (He.ga K "are_figures") fd ∧ Fb P w K mg base 1 (He.ga K "are_figures") fd ["word"] (sp_are_figures K) := by
  obtain ⟨fd, F⟩ := T.f_are_figures
  refine ⟨fd, F, fb_of F sc_are_figures (fun vs H Q E h => ?_) (fun cdv A outer s H vs Q E hr h => ?_)⟩
  · obtain ⟨l, rfl, _⟩ := h
    rfl
  · obtain ⟨l, rfl, hl, q⟩ := h
    refine ⟨_, (pss_one (ps_ret (pe_and (pe_cmpR op_ne (pv 0) pe_str (nomark _)) (pe_one (pe_callB (cr_all rfl) (by rfl) T.n_all (by decide +kernel) (pa_cons (pe_lc (own := [("sign", 1)]) (by rfl) sc_are_figures.nd (pi_str (pv 0)) (blkOk_by (own := [("sign", 1)]) (N := ["word", "sign"]) (sc := defScope s_are_figures) (by decide +kernel)) (fun _ _ _ _ _ => (pg_name (i := 1) sc_are_figures.nd rfl (Or.inl rfl))) (fun _ _ _ _ _ => pts_nil) (fun _ _ _ _ _ => (pe_cmpR op_in_sign (pv 1) (pe_k T.v_FIGURES) (by rfl)))) pa_nil)))))), ?_⟩
    refine ⟨_, rfl, rfl, _, rfl, ?_⟩
    by_cases h0 : l = []
    · subst h0
      rw [decide_eq_true (show V.str (SX.S []) = V.str (Str.ofString "") from rfl)]
      exact q H (.refl H)
    · rw [decide_eq_false (show ¬ V.str (SX.S l) = V.str (Str.ofString "") from fun z => h0 (by injection z with z; exact SX.S_inj z))]
      refine iteT ?_
      refine ⟨_, rfl, _, rfl, fun D nD => lc_fm L2.walk_str (fun i => some (.bl (Mo.isFig (l.getD i 0)))) (fun H' => Ex H H') (fun H' z e => ex_mut e nD) (.refl H) (by show l.toArray.size ≤ 100000; simpa using hl) (fun _ _ => trivial) (fun i x H1 H2 acc N hi e hD la y k => ?_) fun H1 e1 d1 => ?_⟩
      · obtain ⟨rfl, c, hc, rfl⟩ := y
        refine ⟨rfl, _, rfl, c, _, rfl, rfl, acc, hD, la, ?_⟩
        rw [fig_in]
        have e2 : l.getD i 0 = c := by
          have hc2 : l[i]? = some c := by simpa using hc
          rw [List.getD_eq_getElem?_getD, hc2]
          rfl
        have k2 := k H2 e hD
        rw [e2] at k2
        exact k2
      · refine ⟨D, l.map Mo.isFig, rfl, sq_lst ?_, ?_⟩
        · rw [d1]
          have e3 := range_map_get l 0 (fun c => V.bl (Mo.isFig c))
          have e4 : l.toArray.size = l.length := by simp
          show some (HO.lst (List.filterMap _ (List.range l.toArray.size))) = _
          rw [e4, e3, List.map_map]
          rfl
        · have e5 : (l.map Mo.isFig).all id = Mo.figs l := by
            unfold Mo.figs
            rw [List.all_map]
            cases l with
            | nil => exact absurd rfl h0
            | cons a r => rfl
          rw [e5]
          exact q H1 e1

theorem ok_are_figures {P : Program} {w : World} {K : PySem.W.Frag} {mg : Str → Option Value} {base : Heap} (T : Env K mg) : Fc P w K mg base 1 (He.ga K "are_figures") [] (sp_are_figures K) := by
  obtain ⟨fd, D, F⟩ := fb_are_figures T
  exact F.all (D.bindsN fun _ _ _ _ _ _ us hl => match us, hl with | [_], _ => rfl)
end
section
def sp_number_of (K : PySem.W.Frag) : Sp := fun vs H Q E => ∃ l : List Nat, vs = [.str (SX.S l)] ∧ l.length ≤ 600 ∧ (∀ n, Mo.num? l = some n → ∀ H', Ex H H' → Q (.int n) H') ∧ (Mo.num? l = none → ∀ H', Ex H H' → E (.ref (He.ga K "NoTime")) none H')
theorem fb_number_of {P : Program} {w : World} {K : PySem.W.Frag} {mg : Str → Option Value} {base : Heap} (T : Env K mg) : ∃ fd, FunD K "number_of" "number_of" (defArgs s_number_of) (defBody s_number_of) (defScope s_number_of) [] [] (He.ga K "number_of") fd ∧ Fb P w K mg base 2 (He.ga K "number_of") fd ["word"] (sp_number_of K) := by
  obtain ⟨fd, F⟩ := T.f_number_of
  refine ⟨fd, F, fb_of F sc_number_of (fun vs H Q E h => ?_) (fun cdv A outer s H vs Q E hr h => ?_)⟩
  · obtain ⟨l, rfl, _⟩ := h
    rfl
  · obtain ⟨l, rfl, hl, q, qe⟩ := h
    refine ⟨_, (pss_cons (ps_if (PW.pt (pw_or (pt_not (pt_val (c_call (ok_are_figures T) (hr.mono (by decide)) T.g_are_figures T.k_are_figures (takes_of rfl rfl rfl rfl) (pa_cons (pv 0) pa_nil)))) (pw_or1 (PW.pt (pw_and (pt_cmpR op_gt (pe_callB call_len (by rfl) T.n_len (by decide +kernel) (pa_cons (pv 0) pa_nil)) pe_int (nomark _)) (pw_and1 (pt_cmpR op_eq (pe_ix ix_str (pv 0) pe_int (fun _ _ => rfl)) (pe_ix ix_str (pe_k T.v_FIGURES) pe_int (fun _ _ => rfl)) (nomark _))))))))
      (pss_one (ps_raise rfl (takes_of rfl rfl rfl rfl) (pmk_own PySem.F.excBase_ValueError T.x_NoTime.x T.g_NoTime T.x_NoTime.kp (raises_own T.x_NoTime.sub T.x_NoTime.ty) rfl)))
      pss_nil)
      (pss_one (ps_ret (pe_callTy call_int_str (by rfl) T.n_int (by decide +kernel) (pa_cons (pv 0) pa_nil))))), ?_⟩
    refine ⟨_, rfl, l, rfl, by omega, fun H1 X1 => ⟨_, rfl, ?_⟩⟩
    cases hf : Mo.figs l with
    | false => exact qe (by unfold Mo.num?; rw [hf]; rfl) H1 X1
    | true =>
      refine iteF ?_
      refine ⟨_, rfl, _, l.length, rfl, ⟨Nat.le_of_lt (small_len (by rw [SX.S_len]; omega)), (SX.S_len l).symm⟩, _, _, rfl, rfl, _, rfl, ?_⟩
      obtain ⟨h0, hd⟩ := Mo.figs_iff.mp hf
      have fin : (decide (1 < l.length) && l.head? == some 48) = false → (tRet (tCB (fun xs H Q => ∃ (a : Str) (n : Int), xs = [V.str a] ∧ intText? a = some n ∧ a.length ≤ 640 ∧ Q (.int n) H) (tCons (tVar 0) tNil))) { nx := fun _ H' => Q .non H', rt := Q } (start ["word"] [.str (SX.S l)]) H1 := fun hz => by
        refine ⟨_, rfl, _, _, rfl, SX.int_S (Mo.all_fig hd) h0 (by omega), by rw [SX.S_len]; omega, ?_⟩
        exact q (Mo.val l) (by unfold Mo.num?; rw [hf, hz]; rfl) H1 X1
      refine ite2 (fun c => ?_) (fun c => ?_)
      · have c2 : 1 < l.length := by have := of_decide_eq_true c; omega
        cases l with
        | nil => exact absurd rfl h0
        | cons a r =>
          refine ⟨_, rfl, _, _, a, rfl, rfl, Nat.le_of_lt (small_len (by rw [SX.S_len]; omega)), (show atI (a :: r) ((0 : Nat) : Int) = some a from atI_nat rfl), ?_⟩
          refine ⟨_, _, 48, rfl, rfl, by decide, rfl, rfl, _, rfl, ite2 (fun d => ?_) (fun d => ?_)⟩
          · have d2 : a = 48 := by
              have := of_decide_eq_true d
              injection this with this
              have z : [a] = [48] := SX.S_inj this
              injection z
            exact qe (by unfold Mo.num?; rw [hf, d2, decide_eq_true (by rw [d2] at c2; exact c2)]; rfl) H1 X1
          · have d2 : a ≠ 48 := fun z => d (decide_eq_true (by rw [z]))
            exact fin (by rw [decide_eq_true c2]; simpa using d2)
      · have c2 : ¬ 1 < l.length := fun z => c (decide_eq_true (by omega))
        exact fin (by rw [decide_eq_false c2]; rfl)

theorem ok_number_of {P : Program} {w : World} {K : PySem.W.Frag} {mg : Str → Option Value} {base : Heap} (T : Env K mg) : Fc P w K mg base 2 (He.ga K "number_of") [] (sp_number_of K) := by
  obtain ⟨fd, D, F⟩ := fb_number_of T
  exact F.all (D.bindsN fun _ _ _ _ _ _ us hl => match us, hl with | [_], _ => rfl)
end
section
def sp_day_of (K : PySem.W.Frag) : Sp := fun vs H Q E => ∃ l : List Nat, vs = [.str (SX.S l)] ∧ l.length ≤ 600 ∧ (∀ n, Mo.dayOf l = some n → ∀ H', Ex H H' → Q (.int n) H') ∧ (Mo.dayOf l = none → ∀ H', Ex H H' → E (.ref (He.ga K "NoTime")) none H')
theorem fb_day_of {P : Program} {w : World} {K : PySem.W.Frag} {mg : Str → Option Value} {base : Heap} (T : Env K mg) : ∃ fd, FunD K "day_of" "day_of" (defArgs s_day_of) (defBody s_day_of) (defScope s_day_of) [] [] (He.ga K "day_of") fd ∧ Fb P w K mg base 3 (He.ga K "day_of") fd ["word"] (sp_day_of K) := by
  obtain ⟨fd, F⟩ := T.f_day_of
  refine ⟨fd, F, fb_of F sc_day_of (fun vs H Q E h => ?_) (fun cdv A outer s H vs Q E hr h => ?_)⟩
  · obtain ⟨l, rfl, _⟩ := h
    rfl
  · obtain ⟨l, rfl, hl, q, qe⟩ := h
    refine ⟨_, (pss_cons (ps_set (i := 1) sc_day_of.nd rfl (Or.inl rfl) (c_call (ok_number_of T) (hr.mono (by decide)) T.g_number_of T.k_number_of (takes_of rfl rfl rfl rfl) (pa_cons (pv 0) pa_nil)))
      (pss_cons (ps_if (pt_cmpR op_eq (pv 1) pe_int (nomark _))
      (pss_one (ps_raise rfl (takes_of rfl rfl rfl rfl) (pmk_own PySem.F.excBase_ValueError T.x_NoTime.x T.g_NoTime T.x_NoTime.kp (raises_own T.x_NoTime.sub T.x_NoTime.ty) rfl)))
      pss_nil)
      (pss_one (ps_ret (pv 1))))), ?_⟩
    refine ⟨_, rfl, l, rfl, hl, fun n hn H1 X1 => ?_, fun hn H1 X1 => qe (by unfold Mo.dayOf; rw [hn]) H1 X1⟩
    refine ⟨_, rfl, rfl, _, rfl, ite2 (fun c => ?_) (fun c => ?_)⟩
    · have c2 : n = 0 := by have := of_decide_eq_true c; injection this with this; omega
      exact qe (by unfold Mo.dayOf; rw [hn, c2]; rfl) H1 X1
    · refine ⟨_, rfl, q n ?_ H1 X1⟩
      unfold Mo.dayOf
      rw [hn]
      cases n with
      | zero => exact absurd (decide_eq_true rfl) c
      | succ k => rfl

theorem ok_day_of {P : Program} {w : World} {K : PySem.W.Frag} {mg : Str → Option Value} {base : Heap} (T : Env K mg) : Fc P w K mg base 3 (He.ga K "day_of") [] (sp_day_of K) := by
  obtain ⟨fd, D, F⟩ := fb_day_of T
  exact F.all (D.bindsN fun _ _ _ _ _ _ us hl => match us, hl with | [_], _ => rfl)
end
section
def sp_read_moment (K : PySem.W.Frag) : Sp := fun vs H Q E => ∃ x, vs = [x] ∧ ((∃ l : List Nat, x = .str (SX.S l) ∧ l.length ≤ 600 ∧ (∀ n, Mo.momOf l = some n → ∀ H', Ex H H' → Q (.int n) H') ∧ (Mo.momOf l = none → ∀ H', Ex H H' → E (.ref (He.ga K "NoTime")) none H')) ∨
  (∃ t, TyX K H x t ∧ PySem.W.kitOne K t (.type "str") = some false ∧ E (.ref (He.ga K "NoTime")) none H))
theorem fb_read_moment {P : Program} {w : World} {K : PySem.W.Frag} {mg : Str → Option Value} {base : Heap} (T : Env K mg) : ∃ fd, FunD K "read_moment" "read_moment" (defArgs s_read_moment) (defBody s_read_moment) (defScope s_read_moment) [] [] (He.ga K "read_moment") fd ∧ Fb P w K mg base 6 (He.ga K "read_moment") fd ["text"] (sp_read_moment K) := by
  obtain ⟨fd, F⟩ := T.f_read_moment
  refine ⟨fd, F, fb_of F sc_read_moment (fun vs H Q E h => ?_) (fun cdv A outer s H vs Q E hr h => ?_)⟩
  · obtain ⟨x, rfl, _⟩ := h
    rfl
  · obtain ⟨x, rfl, h⟩ := h
    refine ⟨_, (pss_cons (ps_if (pt_not (pt_val (pe_callB call_isi (by rfl) T.n_isinstance (by decide +kernel) (pa_cons (pv 0) (pa_cons (pe_bltn (v := .ty "str") (by rfl) T.n_str (by decide +kernel) rfl) pa_nil)))))
      (pss_one (ps_raise rfl (takes_of rfl rfl rfl rfl) (pmk_own PySem.F.excBase_ValueError T.x_NoTime.x T.g_NoTime T.x_NoTime.kp (raises_own T.x_NoTime.sub T.x_NoTime.ty) rfl)))
      pss_nil)
      (pss_cons (ps_asg (pe_rpartition (pv 0) (pe_k T.v_BLANK)) (pg_tup (by rfl) (pgs_cons (pg_name (i := 1) sc_read_moment.nd rfl (Or.inl rfl)) (pgs_cons (pg_name (i := 2) sc_read_moment.nd rfl (Or.inl rfl)) (pgs_cons (pg_name (i := 3) sc_read_moment.nd rfl (Or.inl rfl)) pgs_nil)))))
      (pss_cons (ps_set (i := 4) sc_read_moment.nd rfl (Or.inl rfl) pe_int)
      (Evl.pss_cut (ps_if (pt_cmpR op_ne (pv 2) pe_str (nomark _))
      (pss_one (ps_set (i := 4) sc_read_moment.nd rfl (Or.inl rfl) (c_call (ok_day_of T) (hr.mono (by decide)) T.g_day_of T.k_day_of (takes_of rfl rfl rfl rfl) (pa_cons (pv 1) pa_nil))))
      pss_nil)
      (pss_cons (ps_asg (pe_partition (pv 3) (pe_k T.v_COLON)) (pg_tup (by rfl) (pgs_cons (pg_name (i := 5) sc_read_moment.nd rfl (Or.inl rfl)) (pgs_cons (pg_name (i := 6) sc_read_moment.nd rfl (Or.inl rfl)) (pgs_cons (pg_name (i := 7) sc_read_moment.nd rfl (Or.inl rfl)) pgs_nil)))))
      (pss_cons (ps_if (PW.pt (pw_or (pt_cmpR op_ne (pe_callB call_len (by rfl) T.n_len (by decide +kernel) (pa_cons (pv 7) pa_nil)) pe_int (nomark _)) (pw_or1 (pt_not (pt_val (c_call (ok_are_figures T) (hr.mono (by decide)) T.g_are_figures T.k_are_figures (takes_of rfl rfl rfl rfl) (pa_cons (pv 7) pa_nil)))))))
      (pss_one (ps_raise rfl (takes_of rfl rfl rfl rfl) (pmk_own PySem.F.excBase_ValueError T.x_NoTime.x T.g_NoTime T.x_NoTime.kp (raises_own T.x_NoTime.sub T.x_NoTime.ty) rfl)))
      pss_nil)
      (pss_one (ps_ret (c_call (ok_moment_at T) (hr.mono (by decide)) T.g_moment_at T.k_moment_at (takes_of rfl rfl rfl rfl) (pa_cons (pv 4) (pa_cons (c_call (ok_number_of T) (hr.mono (by decide)) T.g_number_of T.k_number_of (takes_of rfl rfl rfl rfl) (pa_cons (pv 5) pa_nil)) (pa_cons (pe_callTy call_int_str (by rfl) T.n_int (by decide +kernel) (pa_cons (pv 7) pa_nil)) pa_nil)))))))))))), ?_⟩
    rcases h with ⟨l, rfl, hl, q, qe⟩ | ⟨t, ty, kt, qe⟩
    · have ls : (SX.S l).length ≤ sizeLine := Nat.le_of_lt (small_len (by rw [SX.S_len]; omega))
      refine ⟨_, rfl, .str (SX.S l), .ty "str", _, _, true, rfl, .ty "str", .base (.str _), kit_ty (by decide +kernel), true, rfl, iteF ?_⟩
      refine ⟨_, rfl, ⟨_, rfl⟩, _, _, rfl, rfl, rfl, ls, fun p np => ?_⟩
      rw [show Str.ofString " " = SX.S [32] from rfl, Mo.rpartition_S]
      refine ⟨p, _, rfl, sq_tup upd_same, rfl, _, _, rfl, _, _, rfl, _, _, rfl, rfl, ?_⟩
      have X1 := fun o => ex_new (o := o) np
      refine ⟨fun σ' H' => Ex H H' ∧ ∃ (v1 v2 : Option V) (d : Nat) (t : List Nat), σ' = [some (.str (SX.S l)), v1, v2, some (.str (SX.S t)), some (.int d), none, none, none] ∧ t.length ≤ 600 ∧ Mo.momOf l = (Mo.clkOf t).map fun m => d * 1440 + m, ?_, ?_⟩
      · cases hc : Mo.rcut 32 l with
        | none =>
          refine ⟨_, rfl, rfl, _, rfl, iteF ?_⟩
          refine ⟨X1 _, _, _, 0, l, rfl, hl, ?_⟩
          unfold Mo.momOf
          rw [hc]
          simp
        | some z =>
          obtain ⟨h, t⟩ := z
          have el := (Mo.rcut_is hc).1
          have ll : h.length + t.length < l.length := by rw [el]; simp
          refine ⟨_, rfl, rfl, _, rfl, iteT ?_⟩
          refine ⟨_, rfl, h, rfl, by omega, fun n hn H1 e1 => ?_, fun hn H1 e1 => qe ?_ _ ((X1 _).trans e1)⟩
          · refine ⟨(X1 _).trans e1, _, _, n, t, rfl, by omega, ?_⟩
            unfold Mo.momOf
            rw [hc]
            simp only [hn]
          · unfold Mo.momOf
            rw [hc]
            simp only [hn]
      rintro σ' H2 ⟨X2, v1, v2, d, t, rfl, ht, em⟩
      have ts : (SX.S t).length ≤ sizeLine := Nat.le_of_lt (small_len (by rw [SX.S_len]; omega))
      refine ⟨_, rfl, ⟨_, rfl⟩, _, _, rfl, rfl, rfl, ts, fun p2 np2 => ?_⟩
      have X3 := fun o => X2.trans (ex_new (o := o) np2)
      rw [show Str.ofString ":" = SX.S [58] from rfl]
      cases hp : TL.par [58] [] t with
      | none =>
        rw [SX.partition_none (by decide) hp]
        refine ⟨p2, _, rfl, sq_tup upd_same, rfl, _, _, rfl, _, _, rfl, _, _, rfl, rfl, ?_⟩
        refine ⟨_, rfl, _, 0, rfl, ⟨Nat.zero_le _, rfl⟩, rfl, _, rfl, iteT ?_⟩
        refine qe ?_ _ (X3 _)
        rw [em]
        unfold Mo.clkOf
        rw [hp]
        rfl
      | some z =>
        obtain ⟨h, m⟩ := z
        rw [SX.partition_some (by decide) hp]
        refine ⟨p2, _, rfl, sq_tup upd_same, rfl, _, _, rfl, _, _, rfl, _, _, rfl, rfl, ?_⟩
        obtain ⟨h', eh, et, _⟩ := Mo.par_is hp
        have eh2 : h = h' := by rw [eh]; rfl
        subst eh2
        have tl : h.length + m.length < t.length := by rw [et]; simp
        have ms : (SX.S m).length ≤ sizeLine := Nat.le_of_lt (small_len (by rw [SX.S_len]; omega))
        refine ⟨_, rfl, _, m.length, rfl, ⟨ms, (SX.S_len m).symm⟩, rfl, _, rfl, ite2 (fun c => ?_) (fun c => ?_)⟩
        · refine qe ?_ _ (X3 _)
          have c2 : ¬ m.length = 2 := fun z => by
            rw [z] at c
            exact absurd c (by decide)
          rw [em]
          unfold Mo.clkOf
          rw [hp]
          show Option.map _ (if (decide (m.length = 2) && Mo.figs m) = true then _ else none) = none
          rw [decide_eq_false c2]
          rfl
        · have c2 : m.length = 2 := by
            by_cases z : m.length = 2
            · exact z
            · refine absurd ?_ c
              rw [decide_eq_false (show ¬ V.int ((m.length : Nat) : Int) = V.int 2 from fun y => z (by injection y with y; omega))]
              rfl
          refine ⟨_, rfl, m, rfl, by omega, fun H3 e3 => ⟨_, rfl, ?_⟩⟩
          have X4 : Ex H H3 := (X3 _).trans e3
          cases hf : Mo.figs m with
          | false =>
            refine qe ?_ _ X4
            rw [em]
            unfold Mo.clkOf
            rw [hp]
            show Option.map _ (if (decide (m.length = 2) && Mo.figs m) = true then _ else none) = none
            rw [hf, Bool.and_false]
            rfl
          | true =>
            refine iteF ?_
            obtain ⟨m0, md⟩ := Mo.figs_iff.mp hf
            have ec : ∀ k, Mo.num? h = some k → Mo.clkOf t = if k < 24 ∧ Mo.val m < 60 then some (k * 60 + Mo.val m) else none := fun k hk => by
              unfold Mo.clkOf
              rw [hp]
              show (if (decide (m.length = 2) && Mo.figs m) = true then (match Mo.num? h with | some k => if k < 24 ∧ Mo.val m < 60 then some (k * 60 + Mo.val m) else none | none => none) else none) = _
              rw [hf, decide_eq_true c2, hk]
              rfl
            refine ⟨_, rfl, _, rfl, h, rfl, by omega, fun k hk H4 e4 => ?_, fun hk H4 e4 => ?_⟩
            · refine ⟨_, rfl, _, _, rfl, SX.int_S (Mo.all_fig md) m0 (by omega), by rw [SX.S_len]; omega, rfl, ?_⟩
              have ek := ec k hk
              by_cases hg : k < 24 ∧ Mo.val m < 60
              · rw [if_pos hg] at ek
                refine ma_good (by omega) (by omega) (by omega) (by exact Int.natCast_nonneg _) (by exact Int.ofNat_lt.mpr hg.2) ?_
                have z := q (d * 1440 + (k * 60 + Mo.val m)) (by rw [em, ek]; rfl) H4 (X4.trans e4)
                have ez : ((d * 1440 + (k * 60 + Mo.val m) : Nat) : Int) = (d : Int) * 1440 + (k : Int) * 60 + (Mo.val m : Int) := by omega
                rw [ez] at z
                exact z
              · rw [if_neg hg] at ek
                refine ⟨_, _, _, rfl, cl_int _, cl_int _, cl_int _, fun d' h' m' e1 e2 e3 eb => ?_, fun _ => qe (by rw [em, ek]; rfl) H4 (X4.trans e4)⟩
                exfalso
                apply hg
                have eb2 : (decide ((0 : Int) ≤ (d : Int)) && ((decide ((0 : Int) ≤ (k : Int)) && decide ((k : Int) < 24)) && (decide ((0 : Int) ≤ (Mo.val m : Int)) && decide ((Mo.val m : Int) < 60)))) = true := eb
                simp only [Bool.and_eq_true, decide_eq_true_eq] at eb2
                omega
            · refine qe ?_ H4 (X4.trans e4)
              rw [em]
              unfold Mo.clkOf
              rw [hp]
              show Option.map _ (if (decide (m.length = 2) && Mo.figs m) = true then (match Mo.num? h with | some k => if k < 24 ∧ Mo.val m < 60 then some (k * 60 + Mo.val m) else none | none => none) else none) = none
              rw [hk]
              split <;> rfl
    · refine ⟨_, rfl, x, .ty "str", t, _, false, rfl, .ty "str", ty, kt, false, rfl, ?_⟩
      exact qe

theorem ok_read_moment {P : Program} {w : World} {K : PySem.W.Frag} {mg : Str → Option Value} {base : Heap} (T : Env K mg) : Fc P w K mg base 6 (He.ga K "read_moment") [] (sp_read_moment K) := by
  obtain ⟨fd, D, F⟩ := fb_read_moment T
  exact F.all (D.bindsN fun _ _ _ _ _ _ us hl => match us, hl with | [_], _ => rfl)
end
section
/-- a pot: what is left of a cell's digits, and what mixes -/
def Pot (H : Hp) (p : Addr) : Prop := ∃ a b c : Int, H p = some (.lst [.int a, .int b, .int c]) ∧ 0 ≤ b ∧ b < 2147483629
def sp__law_pot (K : PySem.W.Frag) : Sp := fun vs H Q _ => ∃ (a : Addr) (ns : List Int) (k : Int), vs = [.ref a, .int k] ∧ SqL K H a (ns.map V.int) ∧ 0 ≤ k ∧ k < 1000 ∧ ∀ p H', H p = none → Pot H' p → (∀ b, b ≠ p → H' b = H b) → Q (.ref p) H'
theorem fb__law_pot {P : Program} {w : World} {K : PySem.W.Frag} {mg : Str → Option Value} {base : Heap} (T : Env K mg) : ∃ fd, FunD K "_law_pot" "_law_pot" (defArgs s__law_pot) (defBody s__law_pot) (defScope s__law_pot) [] [] (He.ga K "_law_pot") fd ∧ Fb P w K mg base 1 (He.ga K "_law_pot") fd ["_law_script", "_law_k"] (sp__law_pot K) := by
  obtain ⟨fd, F⟩ := T.f__law_pot
  refine ⟨fd, F, fb_of F sc__law_pot (fun vs H Q E h => ?_) (fun cdv A outer s H vs Q E hr h => ?_)⟩
  · obtain ⟨a, ns, k, rfl, _⟩ := h
    rfl
  · obtain ⟨a, ns, k, rfl, hS, k0, k1, q⟩ := h
    refine ⟨_, (Evl.pss_cut (ps_set (i := 2) sc__law_pot.nd rfl (Or.inl rfl) (pe_ifExp (pt_cmpR op_lt (pv 1) (pe_callB call_len (by rfl) T.n_len (by decide +kernel) (pa_cons (pv 0) pa_nil)) (nomark _)) (pe_ix ix_list (pv 0) (pv 1) (fun _ _ => rfl)) pe_int))
      (pss_one (ps_ret (pe_lst (pa_cons (pe_callB (call_max2 rfl) (by rfl) T.n_max (by decide +kernel) (pa_cons pe_int (pa_cons (pe_op op_sub (pv 2) (pe_op op_pow pe_int pe_int)) pa_nil))) (pa_cons (pe_op op_mod (pe_op op_pow (pe_op op_add (pe_op op_mul (pe_op op_mod (pv 2) pe_int) pe_int) (pe_op op_mul pe_int (pe_op op_add (pv 1) pe_int))) pe_int) pe_int) (pa_cons pe_int pa_nil))))))), ?_⟩
    refine ⟨fun σ' H' => H' = H ∧ ∃ cell : Int, σ' = [some (.ref a), some (.int k), some (.int cell)], ?_, ?_⟩
    · refine ⟨_, rfl, _, rfl, _, _, rfl, .inl ⟨_, hS, rfl⟩, _, _, rfl, rfl, _, rfl, ite2 (fun c => ?_) (fun c => ?_)⟩
      · have c2 : k < ((ns.map V.int).length : Int) := of_decide_eq_true c
        rw [List.length_map] at c2
        obtain ⟨i, rfl⟩ := Int.eq_ofNat_of_zero_le k0
        have hi : i < ns.length := Int.ofNat_lt.mp c2
        refine ⟨_, rfl, _, rfl, a, _, _, .int ns[i], rfl, rfl, hS, ?_, rfl, ns[i], rfl⟩
        exact atI_nat (by rw [List.getElem?_map, List.getElem?_eq_getElem hi]; rfl)
      · exact ⟨rfl, 0, rfl⟩
    · rintro σ' H' ⟨rfl, cell, rfl⟩
      have m1 := Int.emod_nonneg cell (show (2147483629 : Int) ≠ 0 by decide)
      have m2 := Int.emod_lt_of_pos cell (show (0 : Int) < 2147483629 by decide)
      refine ⟨_, rfl, _, _, rfl, rfl, ⟨by decide, by decide, by decide⟩, _, _, rfl, rfl, _, _, rfl, ?_⟩
      refine ⟨_, rfl, _, _, rfl, rfl, (by show (0 : Int) < 2147483629; decide), _, _, rfl, rfl, .inr (by decide), _, rfl, _, _, rfl, rfl, _, _, rfl, rfl, .inl (by decide), _, _, rfl, rfl, _, _, rfl, rfl, ⟨by decide, by decide, ?_⟩, _, _, rfl, rfl, (by show (0 : Int) < 2147483563; decide), ?_⟩
      · show (cell % 2147483629 * 69621 + 40503 * (k + 1)).natAbs < 2 ^ 64
        omega
      · refine ⟨by show 3 ≤ sizeLine; decide, fun p hp => ?_⟩
        refine q p _ hp ⟨_, _, _, upd_same, Int.emod_nonneg _ (by decide), Int.lt_trans (Int.emod_lt_of_pos _ (by decide)) (by decide)⟩ fun b n => upd_ne n

theorem ok__law_pot {P : Program} {w : World} {K : PySem.W.Frag} {mg : Str → Option Value} {base : Heap} (T : Env K mg) : Fc P w K mg base 1 (He.ga K "_law_pot") [] (sp__law_pot K) := by
  obtain ⟨fd, D, F⟩ := fb__law_pot T
  exact F.all (D.bindsN fun _ _ _ _ _ _ us hl => match us, hl with | [_, _], _ => rfl)
end
section
/-- the pot at p is drawn from: everything else stays -/
def PotOn (H H' : Hp) (p : Addr) : Prop := Pot H' p ∧ ∀ b o, b ≠ p → H b = some o → H' b = some o
theorem PotOn.refl {H : Hp} {p : Addr} (h : Pot H p) : PotOn H H p := ⟨h, fun _ _ _ e => e⟩
theorem PotOn.trans {H H1 H2 : Hp} {p : Addr} (a : PotOn H H1 p) (b : PotOn H1 H2 p) : PotOn H H2 p := ⟨b.1, fun c o n e => b.2 c o n (a.2 c o n e)⟩
def sp__law_take (K : PySem.W.Frag) : Sp := fun vs H Q _ => ∃ (p : Addr) (n : Int), vs = [.ref p, .int n] ∧ Pot H p ∧ 0 < n ∧ n < 1073741824 ∧ ∀ (d : Int) H', 0 ≤ d → d < n → PotOn H H' p → Q (.int d) H'
theorem fb__law_take {P : Program} {w : World} {K : PySem.W.Frag} {mg : Str → Option Value} {base : Heap} (T : Env K mg) : ∃ fd, FunD K "_law_take" "_law_take" (defArgs s__law_take) (defBody s__law_take) (defScope s__law_take) [] [] (He.ga K "_law_take") fd ∧ Fb P w K mg base 1 (He.ga K "_law_take") fd ["_law_pot_here", "_law_many"] (sp__law_take K) := by
  obtain ⟨fd, F⟩ := T.f__law_take
  refine ⟨fd, F, fb_of F sc__law_take (fun vs H Q E h => ?_) (fun cdv A outer s H vs Q E hr h => ?_)⟩
  · obtain ⟨p, n, rfl, _⟩ := h
    rfl
  · obtain ⟨p, n, rfl, ⟨a, b, c, hp, b0, b1⟩, n0, n1, q⟩ := h
    refine ⟨_, (pss_cons (ps_if (pt_cmpR op_gt (pe_ix ix_list (pv 0) pe_int (fun _ _ => rfl)) pe_int (nomark _))
      (pss_cons (ps_asg (pe_callB call_divmodW (by rfl) T.n_divmod (by decide +kernel) (pa_cons (pe_ix ix_list (pv 0) pe_int (fun _ _ => rfl)) (pa_cons (pv 1) pa_nil))) (pg_tup (by rfl) (pgs_cons (pg_sub (pv 0) pe_int set_list) (pgs_cons (pg_name (i := 2) sc__law_take.nd rfl (Or.inl rfl)) pgs_nil))))
      (pss_one (ps_ret (pv 2))))
      pss_nil)
      (pss_cons (ps_asg (pe_op op_add (pe_ix ix_list (pv 0) pe_int (fun _ _ => rfl)) pe_int) (pg_sub (pv 0) pe_int set_list))
      (pss_cons (ps_asg (pe_op op_mod (pe_op op_add (pe_op op_mul (pe_ix ix_list (pv 0) pe_int (fun _ _ => rfl)) pe_int) (pe_op op_mul pe_int (pe_ix ix_list (pv 0) pe_int (fun _ _ => rfl)))) pe_int) (pg_sub (pv 0) pe_int set_list))
      (pss_one (ps_ret (pe_op op_mod (pe_op op_fdiv (pe_op op_mod (pe_op op_mul (pe_ix ix_list (pv 0) pe_int (fun _ _ => rfl)) (pe_ix ix_list (pv 0) pe_int (fun _ _ => rfl))) pe_int) pe_int) (pv 1))))))), ?_⟩
    refine ⟨_, rfl, p, _, _, .int a, rfl, rfl, sq_lst hp, rfl, _, _, rfl, rfl, _, rfl, ite2 (fun _ => ?_) (fun _ => ?_)⟩
    · refine ⟨_, rfl, p, _, _, .int a, rfl, rfl, sq_lst hp, rfl, _, rfl, a, n, rfl, ⟨n0, PyProof.noPylong_small (by omega)⟩, fun t ht => ?_⟩
      have pt : p ≠ t := ne_of_none hp ht
      refine ⟨t, _, rfl, sq_tup upd_same, rfl, _, _, rfl, _, rfl, p, [.int a, .int b, .int c], 0, 0, rfl, rfl, (by rw [upd_ne pt]; exact hp), rfl, _, _, rfl, rfl, _, rfl, ?_⟩
      refine q _ _ (Int.emod_nonneg _ (by omega)) (Int.emod_lt_of_pos _ n0) ⟨⟨_, _, _, upd_same, b0, b1⟩, fun x o nx e => ?_⟩
      rw [upd_ne nx, upd_ne (ne_of_none e ht)]
      exact e
    · refine ⟨_, rfl, p, _, _, .int c, rfl, rfl, sq_lst hp, rfl, _, _, rfl, rfl, _, rfl, p, _, 2, 2, rfl, rfl, hp, rfl, ?_⟩
      refine ⟨_, rfl, p, _, _, .int b, rfl, rfl, sq_lst upd_same, rfl, _, _, rfl, rfl, .inr (by decide), _, rfl, p, _, _, .int (c + 1), rfl, rfl, sq_lst upd_same, rfl, _, _, rfl, rfl, .inl (by decide), _, _, rfl, rfl, _, _, rfl, rfl, (by show (0 : Int) < 2147483629; decide), _, rfl, p, _, 1, 1, rfl, rfl, upd_same, rfl, ?_⟩
      have m1 := Int.emod_nonneg (b * 48271 + 11213 * (c + 1)) (show (2147483629 : Int) ≠ 0 by decide)
      have m2 := Int.emod_lt_of_pos (b * 48271 + 11213 * (c + 1)) (show (0 : Int) < 2147483629 by decide)
      refine ⟨_, rfl, p, _, _, .int ((b * 48271 + 11213 * (c + 1)) % 2147483629), rfl, rfl, sq_lst upd_same, rfl, _, rfl, p, _, _, .int ((b * 48271 + 11213 * (c + 1)) % 2147483629), rfl, rfl, sq_lst upd_same, rfl, _, _, rfl, rfl, .inl ⟨by omega, by omega⟩, _, _, rfl, rfl, (by show (0 : Int) < 2147483587; decide), _, _, rfl, rfl, ⟨by decide, by decide⟩, _, rfl, _, _, rfl, rfl, n0, ?_⟩
      refine q _ _ (Int.emod_nonneg _ (by omega)) (Int.emod_lt_of_pos _ n0) ⟨⟨_, _, _, upd_same, m1, m2⟩, fun x o nx e => ?_⟩
      rw [upd_ne nx, upd_ne nx]
      exact e
theorem PotOn.ex {H0 H H' : Hp} {p : Addr} (e : Ex H0 H) (n : H0 p = none) (P : PotOn H H' p) : Ex H0 H' := fun b o h => P.2 b o (ne_of_none h n) (e b o h)

theorem ok__law_take {P : Program} {w : World} {K : PySem.W.Frag} {mg : Str → Option Value} {base : Heap} (T : Env K mg) : Fc P w K mg base 1 (He.ga K "_law_take") [] (sp__law_take K) := by
  obtain ⟨fd, D, F⟩ := fb__law_take T
  exact F.all (D.bindsN fun _ _ _ _ _ _ us hl => match us, hl with | [_, _], _ => rfl)
end
section
def sp__law_great (K : PySem.W.Frag) : Sp := fun vs H Q _ => ∃ (p : Addr) (n : Int), vs = [.ref p, .int n] ∧ Pot H p ∧ 0 < n ∧ ∀ (d : Int) H', 0 ≤ d → d < n → PotOn H H' p → Q (.int d) H'
theorem fb__law_great {P : Program} {w : World} {K : PySem.W.Frag} {mg : Str → Option Value} {base : Heap} (T : Env K mg) : ∃ fd, FunD K "_law_great" "_law_great" (defArgs s__law_great) (defBody s__law_great) (defScope s__law_great) [] [] (He.ga K "_law_great") fd ∧ Fb P w K mg base 2 (He.ga K "_law_great") fd ["_law_pot_here", "_law_bound"] (sp__law_great K) := by
  obtain ⟨fd, F⟩ := T.f__law_great
  refine ⟨fd, F, fb_of F sc__law_great (fun vs H Q E h => ?_) (fun cdv A outer s H vs Q E hr h => ?_)⟩
  · obtain ⟨p, n, rfl, _⟩ := h
    rfl
  · obtain ⟨p, n, rfl, hp, n0, q⟩ := h
    refine ⟨_, (pss_cons (ps_set (i := 2) sc__law_great.nd rfl (Or.inl rfl) pe_int)
      (pss_cons (ps_for (passes_of rfl) rfl (pi_range1 (by rfl) T.n_range (pa_cons pe_int pa_nil)) (pg_name (i := 3) sc__law_great.nd rfl (Or.inl rfl))
      (pss_one (ps_set (i := 2) sc__law_great.nd rfl (Or.inl rfl) (pe_op op_add (pe_op op_mul (pv 2) (pe_op op_pow pe_int pe_int)) (c_call (ok__law_take T) (hr.mono (by decide)) T.g__law_take T.k__law_take takes0 (pa_cons (pv 0) (pa_cons (pe_op op_pow pe_int pe_int) pa_nil)))))))
      (pss_one (ps_ret (pe_op op_mod (pv 2) (pv 1)))))), ?_⟩
    refine ⟨7, rfl, by decide, by decide, for_range (n := 7) (fun i σ H' => PotOn H H' p ∧ ∃ (f : Int) (v : Option V), σ = [some (.ref p), some (.int n), some (.int f), v] ∧ 0 ≤ f) ⟨.refl hp, 0, none, rfl, Int.le_refl _⟩ ?_ ?_⟩
    · rintro i σ H1 hi ⟨P1, f, v, rfl, f0⟩
      refine ⟨_, rfl, _, _, rfl, rfl, ⟨by decide, by decide, by decide⟩, _, _, rfl, rfl, .inr (by decide), _, rfl, _, _, rfl, rfl, ⟨by decide, by decide, by decide⟩, p, _, rfl, P1.1, by decide, by decide, fun d H2 d0 d1 P2 => ?_⟩
      refine ⟨_, _, rfl, rfl, P1.trans P2, _, _, rfl, ?_⟩
      have : (0 : Int) ≤ f * 10 ^ (9 : Int).toNat := Int.mul_nonneg f0 (by decide)
      omega
    · rintro σ H1 ⟨P1, f, v, rfl, f0⟩
      refine ⟨_, rfl, _, rfl, _, _, rfl, rfl, n0, ?_⟩
      exact q _ _ (Int.emod_nonneg _ (by omega)) (Int.emod_lt_of_pos _ n0) P1

theorem ok__law_great {P : Program} {w : World} {K : PySem.W.Frag} {mg : Str → Option Value} {base : Heap} (T : Env K mg) : Fc P w K mg base 2 (He.ga K "_law_great") [] (sp__law_great K) := by
  obtain ⟨fd, D, F⟩ := fb__law_great T
  exact F.all (D.bindsN fun _ _ _ _ _ _ us hl => match us, hl with | [_, _], _ => rfl)
end
section
def sp__law_signs (K : PySem.W.Frag) : Sp := fun vs H Q _ => vs = [] ∧ ∀ z : Str, z.length = 95 → Q (.str z) H
theorem fb__law_signs {P : Program} {w : World} {K : PySem.W.Frag} {mg : Str → Option Value} {base : Heap} (T : Env K mg) : ∃ fd, FunD K "_law_signs" "_law_signs" (defArgs s__law_signs) (defBody s__law_signs) (defScope s__law_signs) [] [] (He.ga K "_law_signs") fd ∧ Fb P w K mg base 1 (He.ga K "_law_signs") fd [] (sp__law_signs K) := by
  obtain ⟨fd, F⟩ := T.f__law_signs
  refine ⟨fd, F, fb_of F sc__law_signs (fun vs H Q E h => ?_) (fun cdv A outer s H vs Q E hr h => ?_)⟩
  · rw [h.1]
    rfl
  · obtain ⟨rfl, q⟩ := h
    refine ⟨_, (pss_cons (ps_set (i := 0) sc__law_signs.nd rfl (Or.inl rfl) pe_str)
      (pss_one (ps_ret (pe_op op_add_str (pe_op op_add_str (pe_op op_add_str (pe_op op_add_str pe_str (pe_upper (pv 0))) pe_str) (pv 0)) pe_str)))), ?_⟩
    refine ⟨_, rfl, ⟨_, rfl⟩, _, rfl, rfl, by decide, ?_⟩
    refine ⟨_, _, rfl, rfl, by decide +kernel, ?_⟩
    refine ⟨_, _, rfl, rfl, by decide +kernel, ?_⟩
    refine ⟨_, rfl, _, _, rfl, rfl, by decide +kernel, ?_⟩
    refine ⟨_, _, rfl, rfl, by decide +kernel, ?_⟩
    exact q _ (by decide +kernel)

theorem ok__law_signs {P : Program} {w : World} {K : PySem.W.Frag} {mg : Str → Option Value} {base : Heap} (T : Env K mg) : Fc P w K mg base 1 (He.ga K "_law_signs") [] (sp__law_signs K) := by
  obtain ⟨fd, D, F⟩ := fb__law_signs T
  exact F.all (D.bindsN fun _ _ _ _ _ _ us hl => match us, hl with | [], _ => rfl)
end
section
def sp__law_text (K : PySem.W.Frag) : Sp := fun vs H Q _ => ∃ p : Addr, vs = [.ref p] ∧ Pot H p ∧ ∀ (z : List Nat) H', z.length ≤ 100 → PotOn H H' p → Q (.str (SX.S z)) H'
theorem str_two2 : ∀ m : Nat, m < 60 → Txt.zfill (Str.ofString (toString ((m : Nat) : Int))) 2 = SX.S (Mo.two m) := by
  intro m h
  have all : ∀ m, m < 60 → TL.tl (Txt.zfill (Str.ofString (toString ((m : Nat) : Int))) 2) = Mo.two m := by decide +kernel
  exact TL.ext_tl (all m h)
theorem fb__law_text {P : Program} {w : World} {K : PySem.W.Frag} {mg : Str → Option Value} {base : Heap} (T : Env K mg) : ∃ fd, FunD K "_law_text" "_law_text" (defArgs s__law_text) (defBody s__law_text) (defScope s__law_text) [] [] (He.ga K "_law_text") fd ∧ Fb P w K mg base 3 (He.ga K "_law_text") fd ["_law_pot_here"] (sp__law_text K) := by
  obtain ⟨fd, F⟩ := T.f__law_text
  refine ⟨fd, F, fb_of F sc__law_text (fun vs H Q E h => ?_) (fun cdv A outer s H vs Q E hr h => ?_)⟩
  · obtain ⟨p, rfl, _⟩ := h
    rfl
  · obtain ⟨p, rfl, hp, q⟩ := h
    refine ⟨_, (pss_cons (ps_set (i := 1) sc__law_text.nd rfl (Or.inl rfl) (c_call (ok__law_take T) (hr.mono (by decide)) T.g__law_take T.k__law_take takes0 (pa_cons (pv 0) (pa_cons pe_int pa_nil))))
      (Evl.pss_cut (ps_set (i := 2) sc__law_text.nd rfl (Or.inl rfl) (pe_ifExp (pt_cmpR op_eq (pv 1) pe_int (nomark _)) (c_call (ok__law_great T) (hr.mono (by decide)) T.g__law_great T.k__law_great takes0 (pa_cons (pv 0) (pa_cons (pe_op op_pow pe_int pe_int) pa_nil))) (pe_op op_mul (pv 1) (c_call (ok__law_take T) (hr.mono (by decide)) T.g__law_take T.k__law_take takes0 (pa_cons (pv 0) (pa_cons pe_int pa_nil))))))
      (pss_cons (ps_set (i := 3) sc__law_text.nd rfl (Or.inl rfl) (c_call (ok__law_take T) (hr.mono (by decide)) T.g__law_take T.k__law_take takes0 (pa_cons (pv 0) (pa_cons pe_int pa_nil))))
      (pss_cons (ps_set (i := 4) sc__law_text.nd rfl (Or.inl rfl) (pe_op op_add_str (pe_op op_add_str (pe_callTy call_str_int (by rfl) T.n_str (by decide +kernel) (pa_cons (pe_op op_fdiv (pv 3) pe_int) pa_nil)) pe_str) (pe_bm PySem.F.plainAttrs_str PySem.F.slot_str_zfill PySem.F.type_str_zfill mt_zfill (pe_callTy call_str_int (by rfl) T.n_str (by decide +kernel) (pa_cons (pe_op op_mod (pv 3) pe_int) pa_nil)) (pa_cons pe_int pa_nil))))
      (pss_cons (ps_if (pt_cmpR op_eq (pv 2) pe_int (nomark _))
      (pss_one (ps_ret (pv 4)))
      pss_nil)
      (pss_one (ps_ret (pe_op op_add_str (pe_op op_add_str (pe_callTy call_str_int (by rfl) T.n_str (by decide +kernel) (pa_cons (pv 2) pa_nil)) pe_str) (pv 4))))))))), ?_⟩
    refine ⟨_, rfl, p, _, rfl, hp, by decide, by decide, fun way H1 w0 w1 P1 => ?_⟩
    refine ⟨fun σ' H' => PotOn H H' p ∧ ∃ d : Nat, σ' = [some (.ref p), some (.int way), some (.int d), none, none] ∧ d < 10 ^ 60, ?_, ?_⟩
    · refine ⟨_, rfl, rfl, _, rfl, ite2 (fun _ => ?_) (fun _ => ?_)⟩
      · refine ⟨_, rfl, _, _, rfl, rfl, ⟨by decide, by decide, by decide⟩, p, _, rfl, P1.1, by decide, fun d H2 d0 d1 P2 => ?_⟩
        obtain ⟨m, rfl⟩ := Int.eq_ofNat_of_zero_le d0
        refine ⟨P1.trans P2, m, rfl, ?_⟩
        have e : (10 : Int) ^ (50 : Int).toNat = 10 ^ 50 := rfl
        omega
      · refine ⟨_, rfl, _, rfl, p, _, rfl, P1.1, by decide, by decide, fun d H2 d0 d1 P2 => ?_⟩
        refine ⟨_, _, rfl, rfl, .inl ⟨by omega, by omega⟩, ?_⟩
        obtain ⟨m, rfl⟩ := Int.eq_ofNat_of_zero_le d0
        obtain ⟨k, rfl⟩ := Int.eq_ofNat_of_zero_le w0
        refine ⟨P1.trans P2, k * m, rfl, ?_⟩
        have : k * m ≤ 3 * 100 := Nat.mul_le_mul (by omega) (by omega)
        omega
    rintro σ' H2 ⟨P2, d, rfl, db⟩
    refine ⟨_, rfl, p, _, rfl, P2.1, by decide, by decide, fun left H3 l0 l1 P3 => ?_⟩
    obtain ⟨m, rfl⟩ := Int.eq_ofNat_of_zero_le l0
    have l2 : (TL.numL (m / 60)).length ≤ 4 := TL.numL_len (by decide) (by omega)
    have l3 : (TL.numL d).length ≤ 60 := TL.numL_len (by decide) db
    have e0 : ((m : Nat) : Int) / 60 = ((m / 60 : Nat) : Int) := by omega
    have e1 : ((m : Nat) : Int) % 60 = ((m % 60 : Nat) : Int) := by omega
    refine ⟨_, rfl, _, _, rfl, rfl, ⟨by decide, by decide⟩, _, rfl, ?_, ?_⟩
    · show (((m : Nat) : Int) / 60).natAbs.log2 < 1920
      rw [e0]
      exact log_of (Nat.lt_of_lt_of_le (show m / 60 < 1440 by omega) (by decide))
    rw [e0, SX.num_S]
    refine ⟨_, _, rfl, rfl, Nat.le_of_lt (small_len (by have := SX.S_len (TL.numL (m / 60)); have : (Str.ofString ":").length = 1 := rfl; omega)), ?_⟩
    rw [show Str.ofString ":" = SX.S [58] from rfl, SX.S_cat]
    refine ⟨_, rfl, _, _, rfl, rfl, (by show (0 : Int) < 60; decide), _, rfl, ?_, rfl, _, _, rfl, rfl, rfl, ?_⟩
    · show (((m : Nat) : Int) % 60).natAbs.log2 < 1920
      rw [e1]
      exact log_of (Nat.lt_of_lt_of_le (show m % 60 < 1440 by omega) (by decide))
    rw [e1, show Txt.zfill (Str.ofString (toString ((m % 60 : Nat) : Int))) 2 = SX.S (Mo.two (m % 60)) from str_two2 _ (by omega)]
    refine ⟨_, _, rfl, rfl, Nat.le_of_lt (small_len (by rw [SX.S_len]; have : (SX.S (Mo.two (m % 60))).length = 2 := rfl; simp; omega)), ?_⟩
    rw [SX.S_cat]
    have lw : (Mo.two (m % 60)).length = 2 := rfl
    have lt : (TL.numL (m / 60) ++ [58] ++ Mo.two (m % 60)).length ≤ 7 := by
      unfold Mo.two
      simp
      omega
    refine ⟨_, rfl, rfl, _, rfl, ite2 (fun c => ?_) (fun c => ?_)⟩
    · exact ⟨_, rfl, q _ _ (by omega) (P2.trans P3)⟩
    · refine ⟨_, rfl, _, rfl, log_of (Nat.lt_of_lt_of_le (show d < 10 ^ 60 from db) (by decide +kernel)), ?_⟩
      rw [SX.num_S]
      refine ⟨_, _, rfl, rfl, Nat.le_of_lt (small_len (by have := SX.S_len (TL.numL d); have : (Str.ofString " ").length = 1 := rfl; omega)), ?_⟩
      rw [show Str.ofString " " = SX.S [32] from rfl, SX.S_cat]
      refine ⟨_, rfl, _, _, rfl, rfl, Nat.le_of_lt (small_len (by rw [SX.S_len, SX.S_len]; simp; omega)), ?_⟩
      rw [SX.S_cat]
      exact q _ _ (by simp; omega) (P2.trans P3)

theorem ok__law_text {P : Program} {w : World} {K : PySem.W.Frag} {mg : Str → Option Value} {base : Heap} (T : Env K mg) : Fc P w K mg base 3 (He.ga K "_law_text") [] (sp__law_text K) := by
  obtain ⟨fd, D, F⟩ := fb__law_text T
  exact F.all (D.bindsN fun _ _ _ _ _ _ us hl => match us, hl with | [_], _ => rfl)
end
section
def sp__law_spoilt (K : PySem.W.Frag) : Sp := fun vs H Q _ => ∃ (p : Addr) (l : List Nat), vs = [.ref p, .str (SX.S l)] ∧ Pot H p ∧ l.length ≤ 200 ∧ ∀ (z : List Nat) H', z.length ≤ l.length + 3 → PotOn H H' p → Q (.str (SX.S z)) H'
theorem str_at (z : Str) {i : Int} (h0 : 0 ≤ i) (h1 : i < (TL.tl z).length) : ∃ c, atI z.cps.toList i = some c := by
  obtain ⟨n, rfl⟩ := Int.eq_ofNat_of_zero_le h0
  have hn : n < (TL.tl z).length := Int.ofNat_lt.mp h1
  exact ⟨(TL.tl z)[n], atI_nat (List.getElem?_eq_getElem hn)⟩
theorem fb__law_spoilt {P : Program} {w : World} {K : PySem.W.Frag} {mg : Str → Option Value} {base : Heap} (T : Env K mg) : ∃ fd, FunD K "_law_spoilt" "_law_spoilt" (defArgs s__law_spoilt) (defBody s__law_spoilt) (defScope s__law_spoilt) [] [] (He.ga K "_law_spoilt") fd ∧ Fb P w K mg base 2 (He.ga K "_law_spoilt") fd ["_law_pot_here", "_law_text_here"] (sp__law_spoilt K) := by
  obtain ⟨fd, F⟩ := T.f__law_spoilt
  refine ⟨fd, F, fb_of F sc__law_spoilt (fun vs H Q E h => ?_) (fun cdv A outer s H vs Q E hr h => ?_)⟩
  · obtain ⟨p, l, rfl, _⟩ := h
    rfl
  · obtain ⟨p, l, rfl, hp, hx, q⟩ := h
    refine ⟨_, (pss_cons (ps_set (i := 2) sc__law_spoilt.nd rfl (Or.inl rfl) (c_call (ok__law_take T) (hr.mono (by decide)) T.g__law_take T.k__law_take takes0 (pa_cons (pv 0) (pa_cons pe_int pa_nil))))
      (pss_cons (ps_set (i := 3) sc__law_spoilt.nd rfl (Or.inl rfl) (c_call0 (ok__law_signs T) (hr.mono (by decide)) T.g__law_signs T.k__law_signs takes0))
      (pss_cons (ps_set (i := 4) sc__law_spoilt.nd rfl (Or.inl rfl) (pe_ix ix_str (pv 3) (c_call (ok__law_take T) (hr.mono (by decide)) T.g__law_take T.k__law_take takes0 (pa_cons (pv 0) (pa_cons (pe_callB call_len (by rfl) T.n_len (by decide +kernel) (pa_cons (pv 3) pa_nil)) pa_nil))) (fun _ _ => rfl)))
      (Evl.pss_cut (ps_if (pt_cmpR op_eq (c_call (ok__law_take T) (hr.mono (by decide)) T.g__law_take T.k__law_take takes0 (pa_cons (pv 0) (pa_cons pe_int pa_nil))) pe_int (nomark _))
      (pss_one (ps_set (i := 4) sc__law_spoilt.nd rfl (Or.inl rfl) (pe_ix ix_str pe_str (c_call (ok__law_take T) (hr.mono (by decide)) T.g__law_take T.k__law_take takes0 (pa_cons (pv 0) (pa_cons pe_int pa_nil))) (fun _ _ => rfl))))
      pss_nil)
      (pss_cons (ps_set (i := 5) sc__law_spoilt.nd rfl (Or.inl rfl) (c_call (ok__law_take T) (hr.mono (by decide)) T.g__law_take T.k__law_take takes0 (pa_cons (pv 0) (pa_cons (pe_op op_add (pe_callB call_len (by rfl) T.n_len (by decide +kernel) (pa_cons (pv 1) pa_nil)) pe_int) pa_nil))))
      (pss_cons (ps_if (pt_cmpR op_eq (pv 2) pe_int (nomark _))
      (pss_one (ps_ret (pe_op op_add_str (pe_op op_add_str (pe_slice sl_str (pv 1) po_none (po_some (pv 5))) (pv 4)) (pe_slice sl_str (pv 1) (po_some (pv 5)) po_none))))
      pss_nil)
      (pss_cons (ps_if (pt_cmpR op_eq (pv 2) pe_int (nomark _))
      (pss_one (ps_ret (pe_op op_add_str (pe_op op_add_str (pe_slice sl_str (pv 1) po_none (po_some (pv 5))) (pv 4)) (pe_slice sl_str (pv 1) (po_some (pe_op op_add (pv 5) pe_int)) po_none))))
      pss_nil)
      (pss_cons (ps_if (pt_cmpR op_eq (pv 2) pe_int (nomark _))
      (pss_one (ps_ret (pe_op op_add_str (pe_slice sl_str (pv 1) po_none (po_some (pv 5))) (pe_slice sl_str (pv 1) (po_some (pe_op op_add (pv 5) pe_int)) po_none))))
      pss_nil)
      (pss_cons (ps_if (pt_cmpR op_eq (pv 2) pe_int (nomark _))
      (pss_cons (ps_set (i := 6) sc__law_spoilt.nd rfl (Or.inl rfl) (pe_op op_add_str (pe_slice sl_str (pv 1) (po_some (pe_op op_add (pv 5) pe_int)) (po_some (pe_op op_add (pv 5) pe_int))) (pe_slice sl_str (pv 1) (po_some (pv 5)) (po_some (pe_op op_add (pv 5) pe_int)))))
      (pss_one (ps_ret (pe_op op_add_str (pe_op op_add_str (pe_slice sl_str (pv 1) po_none (po_some (pv 5))) (pv 6)) (pe_slice sl_str (pv 1) (po_some (pe_op op_add (pv 5) pe_int)) po_none)))))
      pss_nil)
      (pss_one (ps_ret (pe_op op_add_str (pe_op op_add_str (pe_slice sl_str (pv 1) po_none (po_some (pv 5))) (pe_slice sl_str (pv 1) (po_some (pv 5)) (po_some (pe_op op_add (pv 5) pe_int)))) (pe_slice sl_str (pv 1) (po_some (pv 5)) po_none))))))))))))), ?_⟩
    have hxs : (SX.S l).length ≤ sizeLine := Nat.le_of_lt (small_len (by rw [SX.S_len]; omega))
    refine ⟨_, rfl, p, _, rfl, hp, by decide, by decide, fun way H1 w0 w1 P1 => ?_⟩
    refine ⟨rfl, fun sg hsg => ?_⟩
    refine ⟨_, rfl, _, rfl, _, rfl, _, 95, rfl, ⟨Nat.le_of_lt (small_len (by omega)), hsg.symm⟩, p, _, rfl, P1.1, by decide, by decide, fun d H2 d0 d1 P2 => ?_⟩
    obtain ⟨c, hc⟩ := str_at sg d0 (by rw [TL.len_tl] at hsg; omega)
    refine ⟨_, _, c, rfl, rfl, Nat.le_of_lt (small_len (by omega)), hc, ?_⟩
    refine ⟨fun σ' H' => PotOn H H' p ∧ ∃ (c : Nat), σ' = [some (.ref p), some (.str (SX.S l)), some (.int way), some (.str sg), some (.str ⟨#[c]⟩), none, none], ?_, ?_⟩
    · refine ⟨_, rfl, p, _, rfl, P2.1, by decide, by decide, fun d H3 e0 e1 P3 => ?_⟩
      refine ⟨rfl, _, rfl, ite2 (fun _ => ?_) (fun _ => ?_)⟩
      · refine ⟨_, rfl, p, _, rfl, P3.1, by decide, by decide, fun d H4 f0 f1 P4 => ?_⟩
        obtain ⟨c, hc⟩ := str_at (Str.ofString "0123456789: ") f0 (by show d < 12; exact f1)
        refine ⟨_, _, c, rfl, rfl, by decide, hc, ?_⟩
        exact ⟨((P1.trans P2).trans P3).trans P4, c, rfl⟩
      · exact ⟨(P1.trans P2).trans P3, c, rfl⟩
    rintro σ' H3 ⟨P3, c, rfl⟩
    have sm : ∀ m : List Nat, m.length ≤ 1000 → (SX.S m).length ≤ 1000 := fun m h => by rw [SX.S_len]; exact h
    have ad : ∀ a b : List Nat, a.length + b.length ≤ 2000 → (SX.S a).length + (SX.S b).length ≤ sizeLine := fun a b h => by
      rw [SX.S_len, SX.S_len, sizeLine_eq]
      omega
    refine ⟨_, rfl, _, rfl, _, l.length, rfl, ⟨hxs, (SX.S_len l).symm⟩, _, _, rfl, rfl, p, _, rfl, P3.1, by omega, by omega, fun at_ H4 a0 a1 P4 => ?_⟩
    obtain ⟨k, rfl⟩ := Int.eq_ofNat_of_zero_le a0
    have PP := P3.trans P4
    have t1 : (l.take k).length ≤ l.length := by rw [List.length_take]; omega
    have t2 : (l.take k).length + (l.drop k).length = l.length := by rw [List.length_take, List.length_drop]; omega
    have t3 : (l.take k).length + (l.drop (k + 1)).length ≤ l.length := by rw [List.length_take, List.length_drop]; omega
    have t4 : (l.take k).length + (l.drop (k + 2)).length ≤ l.length := by rw [List.length_take, List.length_drop]; omega
    have k1 : (k : Int) + 1 = ((k + 1 : Nat) : Int) := by omega
    have k2 : (k : Int) + 2 = ((k + 2 : Nat) : Int) := by omega
    have k3 : (k : Int) + 3 = ((k + 3 : Nat) : Int) := by omega
    have m1 : ((l.drop (k + 1)).take (k + 2 - (k + 1))).length ≤ 1 := by rw [List.length_take]; omega
    have m2 : ((l.drop k).take (k + 1 - k)).length ≤ 1 := by rw [List.length_take]; omega
    have m3 : ((l.drop k).take (k + 3 - k)).length ≤ 3 := by rw [List.length_take]; omega
    refine ⟨_, rfl, rfl, _, rfl, ite2 (fun _ => ?_) (fun _ => ?_)⟩
    · refine ⟨_, rfl, _, rfl, _, rfl, _, rfl, hxs, ?_⟩
      rw [Mo.cut_to]
      refine ⟨_, rfl, _, _, rfl, rfl, ad _ [c] (by simp; omega), ?_⟩
      rw [SX.S_cat]
      refine ⟨_, rfl, _, rfl, _, rfl, _, rfl, hxs, ?_⟩
      rw [Mo.cut_from]
      refine ⟨_, _, rfl, rfl, ad _ _ (by simp; omega), ?_⟩
      rw [SX.S_cat]
      exact q _ _ (by simp; omega) PP
    refine ⟨_, rfl, rfl, _, rfl, ite2 (fun _ => ?_) (fun _ => ?_)⟩
    · refine ⟨_, rfl, _, rfl, _, rfl, _, rfl, hxs, ?_⟩
      rw [Mo.cut_to]
      refine ⟨_, rfl, _, _, rfl, rfl, ad _ [c] (by simp; omega), ?_⟩
      rw [SX.S_cat]
      refine ⟨_, rfl, _, rfl, _, _, rfl, rfl, _, rfl, _, rfl, hxs, ?_⟩
      rw [k1, Mo.cut_from]
      refine ⟨_, _, rfl, rfl, ad _ _ (by simp; omega), ?_⟩
      rw [SX.S_cat]
      exact q _ _ (by simp; omega) PP
    refine ⟨_, rfl, rfl, _, rfl, ite2 (fun _ => ?_) (fun _ => ?_)⟩
    · refine ⟨_, rfl, _, rfl, _, rfl, _, rfl, hxs, ?_⟩
      rw [Mo.cut_to]
      refine ⟨_, rfl, _, rfl, _, _, rfl, rfl, _, rfl, _, rfl, hxs, ?_⟩
      rw [k1, Mo.cut_from]
      refine ⟨_, _, rfl, rfl, ad _ _ (by omega), ?_⟩
      rw [SX.S_cat]
      exact q _ _ (by rw [List.length_append]; omega) PP
    refine ⟨_, rfl, rfl, _, rfl, ite2 (fun _ => ?_) (fun _ => ?_)⟩
    · refine ⟨_, rfl, _, rfl, _, _, rfl, rfl, _, rfl, _, rfl, _, _, rfl, rfl, _, rfl, _, rfl, hxs, ?_⟩
      rw [k1, k2, Mo.cut_mid]
      refine ⟨_, rfl, _, rfl, _, rfl, _, rfl, _, _, rfl, rfl, _, rfl, _, rfl, hxs, ?_⟩
      rw [k1, Mo.cut_mid]
      refine ⟨_, _, rfl, rfl, ad _ _ (by omega), ?_⟩
      rw [SX.S_cat]
      refine ⟨_, rfl, _, rfl, _, rfl, _, rfl, hxs, ?_⟩
      rw [Mo.cut_to]
      refine ⟨_, rfl, _, _, rfl, rfl, ad _ _ (by rw [List.length_append]; omega), ?_⟩
      rw [SX.S_cat]
      refine ⟨_, rfl, _, rfl, _, _, rfl, rfl, _, rfl, _, rfl, hxs, ?_⟩
      rw [k2, Mo.cut_from]
      refine ⟨_, _, rfl, rfl, ad _ _ (by simp only [List.length_append]; omega), ?_⟩
      rw [SX.S_cat]
      exact q _ _ (by simp only [List.length_append]; omega) PP
    · refine ⟨_, rfl, _, rfl, _, rfl, _, rfl, hxs, ?_⟩
      rw [Mo.cut_to]
      refine ⟨_, rfl, _, rfl, _, rfl, _, rfl, _, _, rfl, rfl, _, rfl, _, rfl, hxs, ?_⟩
      rw [k3, Mo.cut_mid]
      refine ⟨_, _, rfl, rfl, ad _ _ (by omega), ?_⟩
      rw [SX.S_cat]
      refine ⟨_, rfl, _, rfl, _, rfl, _, rfl, hxs, ?_⟩
      rw [Mo.cut_from]
      refine ⟨_, _, rfl, rfl, ad _ _ (by rw [List.length_append]; omega), ?_⟩
      rw [SX.S_cat]
      exact q _ _ (by simp only [List.length_append]; omega) PP

theorem ok__law_spoilt {P : Program} {w : World} {K : PySem.W.Frag} {mg : Str → Option Value} {base : Heap} (T : Env K mg) : Fc P w K mg base 2 (He.ga K "_law_spoilt") [] (sp__law_spoilt K) := by
  obtain ⟨fd, D, F⟩ := fb__law_spoilt T
  exact F.all (D.bindsN fun _ _ _ _ _ _ us hl => match us, hl with | [_, _], _ => rfl)
end
section
def sp__law_odd (K : PySem.W.Frag) : Sp := fun vs H Q _ => ∃ p : Addr, vs = [.ref p] ∧ Pot H p ∧ ∀ (z : List Nat) H', z.length ≤ 20 → PotOn H H' p → Q (.str (SX.S z)) H'
theorem pot_new {H H' : Hp} {p l : Addr} {o : HO} (P : PotOn H H' p) (n : H' l = none) : PotOn H (upd H' l o) p := by
  obtain ⟨⟨x, y, z, e, r⟩, k⟩ := P
  refine ⟨⟨x, y, z, by rw [upd_ne (ne_of_none e n)]; exact e, r⟩, fun b u nb h => ?_⟩
  rw [upd_ne (ne_of_none (k b u nb h) n)]
  exact k b u nb h
def strsB (B : Nat) : List V → Bool
  | [] => true
  | .str z :: r => decide (z.length ≤ B) && strsB B r
  | _ => false
theorem strsB_get {B : Nat} : ∀ {xs : List V} {n : Nat}, strsB B xs = true → n < xs.length → ∃ z : Str, xs[n]? = some (.str z) ∧ z.length ≤ B
  | [], _, _, h => by simp at h
  | x :: xs, n, hb, h => by
    cases x with
    | str z =>
      obtain ⟨h1, h2⟩ := He.ba (show (decide (z.length ≤ B) && strsB B xs) = true from hb)
      cases n with
      | zero => exact ⟨z, rfl, of_decide_eq_true h1⟩
      | succ k =>
        obtain ⟨w, e, l⟩ := strsB_get (n := k) h2 (by simpa using h)
        exact ⟨w, by simpa using e, l⟩
    | _ => cases hb
theorem at_all {B : Nat} {xs : List V} {d : Int} (d0 : 0 ≤ d) (d1 : d < (xs.length : Int)) (hb : strsB B xs = true) : ∃ z : Str, atI xs d = some (.str z) ∧ z.length ≤ B := by
  obtain ⟨n, rfl⟩ := Int.eq_ofNat_of_zero_le d0
  obtain ⟨z, e, l⟩ := strsB_get hb (Int.ofNat_lt.mp d1)
  exact ⟨z, atI_nat e, l⟩
theorem odd_end {H : Hp} {p l1 l2 l3 l4 l5 l6 l7 : Addr} {o1 o2 o3 o4 o5 o6 : HO} {C : Prop} (hp : Pot H p) (n1 : H l1 = none) (n2 : upd H l1 o1 l2 = none) (n3 : upd (upd H l1 o1) l2 o2 l3 = none) (n4 : upd (upd (upd H l1 o1) l2 o2) l3 o3 l4 = none)
    (n5 : upd (upd (upd (upd H l1 o1) l2 o2) l3 o3) l4 o4 l5 = none) (n6 : upd (upd (upd (upd (upd H l1 o1) l2 o2) l3 o3) l4 o4) l5 o5 l6 = none) (n7 : upd (upd (upd (upd (upd (upd H l1 o1) l2 o2) l3 o3) l4 o4) l5 o5) l6 o6 l7 = none)
    (k : (∀ o7, PotOn H (upd (upd (upd (upd (upd (upd (upd H l1 o1) l2 o2) l3 o3) l4 o4) l5 o5) l6 o6) l7 o7) p) → l7 ≠ p → C) : C := by
  have P6 := pot_new (o := o6) (pot_new (o := o5) (pot_new (o := o4) (pot_new (o := o3) (pot_new (o := o2) (pot_new (o := o1) (.refl hp) n1) n2) n3) n4) n5) n6
  refine k (fun _ => pot_new P6 n7) fun z => ?_
  obtain ⟨_, _, _, e, _⟩ := P6.1
  rw [z, e] at n7
  cases n7
theorem at_of {B n : Nat} {H : Hp} {a : Addr} {xs : List V} {d : Int} (_h : H a = some (.lst xs)) (d0 : 0 ≤ d) (d1 : d < (n : Int)) (hl : xs.length = n) (hb : strsB B xs = true) : ∃ z : Str, atI xs d = some (.str z) ∧ z.length ≤ B := at_all d0 (by rw [hl]; exact d1) hb
theorem fb__law_odd {P : Program} {w : World} {K : PySem.W.Frag} {mg : Str → Option Value} {base : Heap} (T : Env K mg) : ∃ fd, FunD K "_law_odd" "_law_odd" (defArgs s__law_odd) (defBody s__law_odd) (defScope s__law_odd) [] [] (He.ga K "_law_odd") fd ∧ Fb P w K mg base 2 (He.ga K "_law_odd") fd ["_law_pot_here"] (sp__law_odd K) := by
  obtain ⟨fd, F⟩ := T.f__law_odd
  refine ⟨fd, F, fb_of F sc__law_odd (fun vs H Q E h => ?_) (fun cdv A outer s H vs Q E hr h => ?_)⟩
  · obtain ⟨p, rfl, _⟩ := h
    rfl
  · obtain ⟨p, rfl, hp, q⟩ := h
    refine ⟨_, (pss_cons (ps_set (i := 1) sc__law_odd.nd rfl (Or.inl rfl) (pe_lst (pa_cons pe_str (pa_cons pe_str (pa_cons pe_str (pa_cons pe_str (pa_cons pe_str (pa_cons pe_str (pa_cons pe_str (pa_cons pe_str (pa_cons pe_str (pa_cons pe_str (pa_cons pe_str (pa_cons pe_str (pa_cons pe_str (pa_cons pe_str (pa_cons pe_str pa_nil)))))))))))))))))
      (pss_cons (ps_set (i := 1) sc__law_odd.nd rfl (Or.inl rfl) (pe_op op_cat (pv 1) (pe_lst (pa_cons pe_str (pa_cons pe_str (pa_cons pe_str (pa_cons pe_str (pa_cons pe_str (pa_cons pe_str (pa_cons pe_str (pa_cons pe_str (pa_cons pe_str pa_nil))))))))))))
      (pss_cons (ps_set (i := 1) sc__law_odd.nd rfl (Or.inl rfl) (pe_op op_cat (pv 1) (pe_lst (pa_cons pe_str (pa_cons pe_str (pa_cons pe_str (pa_cons pe_str (pa_cons pe_str (pa_cons pe_str pa_nil)))))))))
      (pss_cons (ps_set (i := 1) sc__law_odd.nd rfl (Or.inl rfl) (pe_op op_cat (pv 1) (pe_lst (pa_cons pe_str (pa_cons pe_str (pa_cons pe_str (pa_cons pe_str (pa_cons pe_str (pa_cons pe_str (pa_cons pe_str (pa_cons pe_str pa_nil)))))))))))
      (pss_one (ps_ret (pe_ix ix_list (pv 1) (c_call (ok__law_take T) (hr.mono (by decide)) T.g__law_take T.k__law_take takes0 (pa_cons (pv 0) (pa_cons (pe_callB call_len (by rfl) T.n_len (by decide +kernel) (pa_cons (pv 1) pa_nil)) pa_nil))) (fun _ _ => rfl)))))))), ?_⟩
    refine ⟨by show 15 ≤ sizeLine; decide, fun l1 n1 => ?_⟩
    refine ⟨_, rfl, by show 9 ≤ sizeLine; decide, fun l2 n2 => ?_⟩
    refine ⟨l1, l2, _, _, rfl, rfl, (by rw [upd_ne (ne_of_none upd_same n2)]; exact upd_same), upd_same, by show 24 ≤ sizeLine; decide, fun l3 n3 => ?_⟩
    refine ⟨_, rfl, by show 6 ≤ sizeLine; decide, fun l4 n4 => ?_⟩
    refine ⟨l3, l4, _, _, rfl, rfl, (by rw [upd_ne (ne_of_none upd_same n4)]; exact upd_same), upd_same, by show 30 ≤ sizeLine; decide, fun l5 n5 => ?_⟩
    refine ⟨_, rfl, by show 8 ≤ sizeLine; decide, fun l6 n6 => ?_⟩
    refine ⟨l5, l6, _, _, rfl, rfl, (by rw [upd_ne (ne_of_none upd_same n6)]; exact upd_same), upd_same, by show 38 ≤ sizeLine; decide, fun l7 n7 => ?_⟩
    refine odd_end hp n1 n2 n3 n4 n5 n6 n7 fun PP pl => ?_
    refine ⟨_, rfl, _, rfl, _, rfl, _, 38, rfl, .inl ⟨_, sq_lst upd_same, rfl⟩, p, _, rfl, (PP _).1, by decide, by decide, fun d H8 d0 d1 P8 => ?_⟩
    have h7 := P8.2 _ _ pl upd_same
    obtain ⟨z, hz, lz⟩ := at_of (B := 20) h7 d0 d1 rfl (by decide +kernel)
    refine ⟨l7, _, _, _, rfl, rfl, sq_lst h7, hz, ?_⟩
    have e : z = SX.S (TL.tl z) := (SX.S_tl z).symm
    rw [e]
    exact q _ _ (by rw [← TL.len_tl]; exact lz) ((PP _).trans P8)

theorem ok__law_odd {P : Program} {w : World} {K : PySem.W.Frag} {mg : Str → Option Value} {base : Heap} (T : Env K mg) : Fc P w K mg base 2 (He.ga K "_law_odd") [] (sp__law_odd K) := by
  obtain ⟨fd, D, F⟩ := fb__law_odd T
  exact F.all (D.bindsN fun _ _ _ _ _ _ us hl => match us, hl with | [_], _ => rfl)
end
section
def sp__law_is_number (K : PySem.W.Frag) : Sp := fun vs H Q _ => ∃ l : List Nat, vs = [.str (SX.S l)] ∧ l.length ≤ 600 ∧ ∀ H', Ex H H' → Q (.bl (Mo.num? l).isSome) H'
theorem fb__law_is_number {P : Program} {w : World} {K : PySem.W.Frag} {mg : Str → Option Value} {base : Heap} (T : Env K mg) : ∃ fd, FunD K "_law_is_number" "_law_is_number" (defArgs s__law_is_number) (defBody s__law_is_number) (defScope s__law_is_number) [] [] (He.ga K "_law_is_number") fd ∧ Fb P w K mg base 1 (He.ga K "_law_is_number") fd ["_law_word"] (sp__law_is_number K) := by
  obtain ⟨fd, F⟩ := T.f__law_is_number
  refine ⟨fd, F, fb_of F sc__law_is_number (fun vs H Q E h => ?_) (fun cdv A outer s H vs Q E hr h => ?_)⟩
  · obtain ⟨l, rfl, _⟩ := h
    rfl
  · obtain ⟨l, rfl, hl, q⟩ := h
    refine ⟨_, (pss_cons (ps_if (PW.pt (pw_or (pt_cmpR op_eq (pv 0) pe_str (nomark _)) (pw_or1 (pt_not (pt_val (pe_callB (cr_all rfl) (by rfl) T.n_all (by decide +kernel) (pa_cons (pe_lc (own := [("_law_sign", 1)]) (by rfl) sc__law_is_number.nd (pi_str (pv 0)) (blkOk_by (own := [("_law_sign", 1)]) (N := ["_law_word", "_law_sign"]) (sc := defScope s__law_is_number) (by decide +kernel)) (fun _ _ _ _ _ => (pg_name (i := 1) sc__law_is_number.nd rfl (Or.inl rfl))) (fun _ _ _ _ _ => pts_nil) (fun _ _ _ _ _ => (pe_cmpR op_in_sign (pv 1) pe_str (by rfl)))) pa_nil)))))))
      (pss_one (ps_ret pe_bl))
      pss_nil)
      (pss_one (ps_ret (pe_or (pe_cmpR op_eq (pv 0) pe_str (nomark _)) (pe_one (pe_cmpR op_ne (pe_ix ix_str (pv 0) pe_int (fun _ _ => rfl)) pe_str (nomark _))))))), ?_⟩
    have ls : (SX.S l).length ≤ sizeLine := Nat.le_of_lt (small_len (by rw [SX.S_len]; omega))
    refine ⟨_, rfl, rfl, _, rfl, ?_⟩
    by_cases h0 : l = []
    · subst h0
      rw [decide_eq_true (show V.str (SX.S []) = V.str (Str.ofString "") from rfl)]
      exact q H (.refl H)
    · rw [decide_eq_false (show ¬ V.str (SX.S l) = V.str (Str.ofString "") from fun z => h0 (by injection z with z; exact SX.S_inj z))]
      refine iteF ?_
      refine ⟨_, rfl, _, rfl, fun D nD => lc_fm L2.walk_str (fun i => some (.bl (Mo.isFig (l.getD i 0)))) (fun H' => Ex H H') (fun H' z e => ex_mut e nD) (.refl H) (by show l.toArray.size ≤ 100000; simp; omega) (fun _ _ => trivial) (fun i x H1 H2 acc N hi e hD la y k => ?_) fun H1 e1 d1 => ?_⟩
      · obtain ⟨rfl, c, hc, rfl⟩ := y
        refine ⟨rfl, _, rfl, c, _, rfl, rfl, acc, hD, la, ?_⟩
        rw [fig_in]
        have e2 : l.getD i 0 = c := by
          have hc2 : l[i]? = some c := by simpa using hc
          rw [List.getD_eq_getElem?_getD, hc2]
          rfl
        have k2 := k H2 e hD
        rw [e2] at k2
        exact k2
      · refine ⟨D, l.map Mo.isFig, rfl, sq_lst ?_, ?_⟩
        · rw [d1]
          have e3 := range_map_get l 0 (fun c => V.bl (Mo.isFig c))
          have e4 : l.toArray.size = l.length := by simp
          show some (HO.lst (List.filterMap _ (List.range l.toArray.size))) = _
          rw [e4, e3, List.map_map]
          rfl
        · have e5 : (l.map Mo.isFig).all id = Mo.figs l := by
            unfold Mo.figs
            rw [List.all_map]
            cases l with
            | nil => exact absurd rfl h0
            | cons a r => rfl
          rw [e5]
          refine ⟨_, rfl, ?_⟩
          cases hf : Mo.figs l with
          | false =>
            have z := q H1 e1
            rw [show (Mo.num? l).isSome = false by unfold Mo.num?; rw [hf]; rfl] at z
            exact z
          | true =>
            refine iteF ?_
            cases l with
            | nil => exact absurd rfl h0
            | cons a r =>
              have en : (Mo.num? (a :: r)).isSome = !(decide (1 < (a :: r).length) && (a :: r).head? == some 48) := by
                unfold Mo.num?
                rw [hf]
                cases (decide (1 < (a :: r).length) && (a :: r).head? == some 48) <;> rfl
              have z := q H1 e1
              rw [en] at z
              refine ⟨_, rfl, rfl, _, rfl, ?_⟩
              by_cases ha : a :: r = [48]
              · rw [ha] at z ⊢
                rw [decide_eq_true (show V.str (SX.S [48]) = V.str (Str.ofString "0") from rfl)]
                exact z
              · rw [decide_eq_false (show ¬ V.str (SX.S (a :: r)) = V.str (Str.ofString "0") from fun y => ha (by injection y with y; exact SX.S_inj y))]
                refine iteF ?_
                refine ⟨_, rfl, _, _, a, rfl, rfl, ls, (show atI (a :: r) ((0 : Nat) : Int) = some a from atI_nat rfl), ?_⟩
                refine ⟨rfl, ?_⟩
                have ed : (!decide (V.str ⟨#[a]⟩ = V.str (Str.ofString "0"))) = !(decide (1 < (a :: r).length) && (a :: r).head? == some 48) := by
                  by_cases h48 : a = 48
                  · subst h48
                    have hr : r ≠ [] := fun y => ha (by rw [y])
                    have hl2 : 1 < (48 :: r).length := by
                      cases r with
                      | nil => exact absurd rfl hr
                      | cons b t => simp
                    rw [decide_eq_true (show V.str ⟨#[48]⟩ = V.str (Str.ofString "0") from rfl), decide_eq_true hl2]
                    rfl
                  · rw [decide_eq_false (show ¬ V.str ⟨#[a]⟩ = V.str (Str.ofString "0") from fun y => h48 (by injection y with y; have z : [a] = [48] := SX.S_inj y; injection z))]
                    have : ((a :: r).head? == some 48) = false := by simpa using h48
                    rw [this, Bool.and_false]
                rw [ed]
                exact z

theorem ok__law_is_number {P : Program} {w : World} {K : PySem.W.Frag} {mg : Str → Option Value} {base : Heap} (T : Env K mg) : Fc P w K mg base 1 (He.ga K "_law_is_number") [] (sp__law_is_number K) := by
  obtain ⟨fd, D, F⟩ := fb__law_is_number T
  exact F.all (D.bindsN fun _ _ _ _ _ _ us hl => match us, hl with | [_], _ => rfl)
end
section
def sp__law_read (K : PySem.W.Frag) : Sp := fun vs H Q _ => ∃ l : List Nat, vs = [.str (SX.S l)] ∧ l.length ≤ 600 ∧ ∀ H', Ex H H' → Q (match Mo.momOf l with | some m => .int (m : Nat) | none => .non) H'
def Mo_snoc (l W : List (List Nat)) (u : List Nat) : Prop := l = W ++ [u]
theorem Mo_snoc_of {l : List (List Nat)} (h : l ≠ []) : ∃ W u, Mo_snoc l W u := ⟨l.dropLast, l.getLast h, (List.dropLast_concat_getLast h).symm⟩
theorem fb__law_read {P : Program} {w : World} {K : PySem.W.Frag} {mg : Str → Option Value} {base : Heap} (T : Env K mg) : ∃ fd, FunD K "_law_read" "_law_read" (defArgs s__law_read) (defBody s__law_read) (defScope s__law_read) [] [] (He.ga K "_law_read") fd ∧ Fb P w K mg base 2 (He.ga K "_law_read") fd ["_law_text_here"] (sp__law_read K) := by
  obtain ⟨fd, F⟩ := T.f__law_read
  refine ⟨fd, F, fb_of F sc__law_read (fun vs H Q E h => ?_) (fun cdv A outer s H vs Q E hr h => ?_)⟩
  · obtain ⟨l, rfl, _⟩ := h
    rfl
  · obtain ⟨l, rfl, hl, q⟩ := h
    refine ⟨_, (pss_cons (ps_set (i := 1) sc__law_read.nd rfl (Or.inl rfl) (pe_split (pv 0) pe_str))
      (pss_cons (ps_set (i := 2) sc__law_read.nd rfl (Or.inl rfl) pe_int)
      (Evl.pss_cut (ps_if (pt_cmpR op_eq (pe_callB call_len (by rfl) T.n_len (by decide +kernel) (pa_cons (pv 1) pa_nil)) pe_int (nomark _))
      (pss_cons (ps_if (PW.pt (pw_or (pt_not (pt_val (c_call (ok__law_is_number T) (hr.mono (by decide)) T.g__law_is_number T.k__law_is_number takes0 (pa_cons (pe_ix ix_list (pv 1) pe_int (fun _ _ => rfl)) pa_nil)))) (pw_or1 (pt_cmpR op_eq (pe_ix ix_list (pv 1) pe_int (fun _ _ => rfl)) pe_str (nomark _)))))
      (pss_one (ps_ret pe_non))
      pss_nil)
      (pss_one (ps_set (i := 2) sc__law_read.nd rfl (Or.inl rfl) (pe_callTy call_int_str (by rfl) T.n_int (by decide +kernel) (pa_cons (pe_ix ix_list (pv 1) pe_int (fun _ _ => rfl)) pa_nil)))))
      pss_nil)
      (pss_cons (ps_set (i := 3) sc__law_read.nd rfl (Or.inl rfl) (pe_split (pe_ix ix_list (pv 1) (pe_un un_neg pe_int) (fun _ _ => rfl)) pe_str))
      (pss_cons (ps_if (PW.pt (pw_or (pt_cmpR op_gt (pe_callB call_len (by rfl) T.n_len (by decide +kernel) (pa_cons (pv 1) pa_nil)) pe_int (nomark _)) (pw_or (pt_cmpR op_ne (pe_callB call_len (by rfl) T.n_len (by decide +kernel) (pa_cons (pv 3) pa_nil)) pe_int (nomark _)) (pw_or (pt_not (pt_val (c_call (ok__law_is_number T) (hr.mono (by decide)) T.g__law_is_number T.k__law_is_number takes0 (pa_cons (pe_ix ix_list (pv 3) pe_int (fun _ _ => rfl)) pa_nil)))) (pw_or1 (pt_cmpR op_ne (pe_callB call_len (by rfl) T.n_len (by decide +kernel) (pa_cons (pe_ix ix_list (pv 3) pe_int (fun _ _ => rfl)) pa_nil)) pe_int (nomark _)))))))
      (pss_one (ps_ret pe_non))
      pss_nil)
      (pss_cons (ps_if (PW.pt (pw_or (pt_not (pt_val (pe_callB (cr_all rfl) (by rfl) T.n_all (by decide +kernel) (pa_cons (pe_lc (own := [("_law_sign", 4)]) (by rfl) sc__law_read.nd (pi_str (pe_ix ix_list (pv 3) pe_int (fun _ _ => rfl))) (blkOk_by (own := [("_law_sign", 4)]) (N := ["_law_text_here", "_law_words", "_law_day", "_law_parts", "_law_sign"]) (sc := defScope s__law_read) (by decide +kernel)) (fun _ _ _ _ _ => (pg_name (i := 4) sc__law_read.nd rfl (Or.inl rfl))) (fun _ _ _ _ _ => pts_nil) (fun _ _ _ _ _ => (pe_cmpR op_in_sign (pv 4) pe_str (by rfl)))) pa_nil)))) (pw_or (pt_cmpR op_gt (pe_callTy call_int_str (by rfl) T.n_int (by decide +kernel) (pa_cons (pe_ix ix_list (pv 3) pe_int (fun _ _ => rfl)) pa_nil)) pe_int (nomark _)) (pw_or1 (pt_cmpR op_gt (pe_callTy call_int_str (by rfl) T.n_int (by decide +kernel) (pa_cons (pe_ix ix_list (pv 3) pe_int (fun _ _ => rfl)) pa_nil)) pe_int (nomark _))))))
      (pss_one (ps_ret pe_non))
      pss_nil)
      (pss_one (ps_ret (pe_op op_add (pe_op op_add (pe_op op_mul (pv 2) pe_int) (pe_op op_mul (pe_callTy call_int_str (by rfl) T.n_int (by decide +kernel) (pa_cons (pe_ix ix_list (pv 3) pe_int (fun _ _ => rfl)) pa_nil)) pe_int)) (pe_callTy call_int_str (by rfl) T.n_int (by decide +kernel) (pa_cons (pe_ix ix_list (pv 3) pe_int (fun _ _ => rfl)) pa_nil))))))))))), ?_⟩
    have ls : (SX.S l).length + 2 ≤ sizeLine := Nat.le_of_lt (small_len (by rw [SX.S_len]; omega))
    refine ⟨_, rfl, ⟨_, rfl⟩, _, _, rfl, rfl, rfl, ls, fun wa nw => ?_⟩
    rw [show Str.ofString " " = SX.S [32] from rfl, SX.split_S (by decide) (by decide)]
    obtain ⟨wl, wn⟩ := Mo.spl_le 32 l.length l (Nat.le_refl _)
    refine ⟨fun σ' H' => Ex H H' ∧ ∃ (d : Nat) (W : List (List Nat)) (u : List Nat), σ' = [some (.str (SX.S l)), some (.ref wa), some (.int d), none, none] ∧ H' wa = some (.lst (((W ++ [u]).map SX.S).map V.str)) ∧ u.length ≤ 600 ∧ (W ++ [u]).length ≤ 700 ∧ ((W.length < 2 ∧ Mo.momOf l = (Mo.clkOf u).map fun m => d * 1440 + m) ∨ (2 ≤ W.length ∧ Mo.momOf l = none)), ?_, ?_⟩
    · have X1 := fun o => ex_new (o := o) nw
      rcases Mo.words_of l with ⟨hc, hw⟩ | ⟨h, t, hc, hw⟩ | ⟨hm, hw⟩
      · rw [hw]
        refine ⟨_, rfl, _, 1, rfl, .inl ⟨_, sq_lst upd_same, rfl⟩, rfl, _, rfl, iteF ?_⟩
        refine ⟨X1 _, 0, [], l, rfl, upd_same, hl, by simp, .inl ⟨by simp, ?_⟩⟩
        unfold Mo.momOf
        rw [hc]
        simp
      · rw [hw]
        have hh : h.length ≤ l.length := wl h (by rw [hw]; simp)
        have ht : t.length ≤ l.length := wl t (by rw [hw]; simp)
        refine ⟨_, rfl, _, 2, rfl, .inl ⟨_, sq_lst upd_same, rfl⟩, rfl, _, rfl, iteT ?_⟩
        refine ⟨_, rfl, wa, _, _, _, rfl, rfl, sq_lst upd_same, rfl, h, rfl, by omega, fun H1 e1 => ⟨_, rfl, ?_⟩⟩
        have w1 := e1 _ _ upd_same
        have X2 : Ex H H1 := (X1 _).trans e1
        have none_of : Mo.dayOf h = none → Mo.momOf l = none := fun z => by
          unfold Mo.momOf
          rw [hc]
          simp only [z]
        cases hn : Mo.num? h with
        | none =>
          have z := q H1 X2
          rw [none_of (by unfold Mo.dayOf; rw [hn])] at z
          exact z
        | some n =>
          refine iteF ?_
          refine ⟨_, rfl, wa, _, _, _, rfl, rfl, sq_lst w1, rfl, rfl, _, rfl, ite2 (fun c => ?_) (fun c => ?_)⟩
          · have c2 : h = [48] := by
              have z := of_decide_eq_true c
              injection z with z
              exact SX.S_inj z
            have z := q H1 X2
            rw [none_of (by rw [c2]; rfl)] at z
            exact z
          · have c2 : h ≠ [48] := fun z => c (decide_eq_true (by rw [z]; rfl))
            have hf : Mo.figs h = true := by
              cases f : Mo.figs h with
              | true => rfl
              | false =>
                unfold Mo.num? at hn
                rw [f] at hn
                cases hn
            obtain ⟨h0, hd⟩ := Mo.figs_iff.mp hf
            have en : n = Mo.val h := by
              unfold Mo.num? at hn
              split at hn
              · exact (Option.some.inj hn).symm
              · cases hn
            refine ⟨_, rfl, wa, _, _, _, rfl, rfl, sq_lst w1, rfl, _, _, rfl, SX.int_S (Mo.all_fig hd) h0 (by omega), by rw [SX.S_len]; omega, ?_⟩
            refine ⟨X2, Mo.val h, [h], t, rfl, w1, by omega, by simp, .inl ⟨by simp, ?_⟩⟩
            unfold Mo.momOf
            rw [hc]
            have e2 : Mo.dayOf h = some (Mo.val h) := by
              unfold Mo.dayOf
              rw [hn, en]
              cases hv : Mo.val h with
              | zero => exact absurd (Mo.val_zero hn (by rw [en, hv])) c2
              | succ k => rfl
            simp only [e2]
      · obtain ⟨W, u, eW⟩ : ∃ W u, Mo_snoc (TL.spl [32] 0 [] l) W u := Mo_snoc_of (Mo.spl_ne _ _ _ _)
        have eW2 : TL.spl [32] 0 [] l = W ++ [u] := eW
        rw [eW2] at hw wl wn ⊢
        refine ⟨_, rfl, _, (W ++ [u]).length, rfl, .inl ⟨_, sq_lst upd_same, by simp⟩, rfl, _, rfl, ?_⟩
        rw [decide_eq_false (show ¬ V.int (((W ++ [u]).length : Nat) : Int) = V.int 2 from fun z => by injection z with z; omega)]
        refine iteF ?_
        refine ⟨X1 _, 0, W, u, rfl, upd_same, ?_, by omega, .inr ⟨by simp at hw; omega, hm⟩⟩
        have := wl u (by simp)
        omega
    rintro σ' H2 ⟨X2, d, W, u, rfl, w2, hu, hW, hM⟩
    have us : (SX.S u).length + 2 ≤ sizeLine := Nat.le_of_lt (small_len (by rw [SX.S_len]; omega))
    refine ⟨_, rfl, _, rfl, wa, _, _, .str (SX.S u), rfl, rfl, sq_lst w2, (by rw [List.map_append, List.map_append]; exact atI_last _ _), ⟨_, rfl⟩, _, _, rfl, rfl, rfl, us, fun pa np => ?_⟩
    rw [show Str.ofString ":" = SX.S [58] from rfl, SX.split_S (by decide) (by decide)]
    have X3 := fun o => X2.trans (ex_new (o := o) np)
    have w3 := fun o => ex_new (o := o) np _ _ w2
    refine ⟨_, rfl, _, (W ++ [u]).length, rfl, .inl ⟨_, sq_lst (w3 _), by simp⟩, _, _, rfl, rfl, _, rfl, ?_⟩
    rcases hM with ⟨lW, hm⟩ | ⟨lW, hm⟩
    · rw [decide_eq_false (show ¬ (2 : Int) < (((W ++ [u]).length : Nat) : Int) by simp; omega)]
      refine iteF ?_
      rcases Mo.parts_of u with ⟨h, m, hp, hlen, hc⟩ | ⟨hc, hp⟩
      · rw [hp]
        have no : Mo.clkOf u = none → ∀ H', Ex H H' → Q .non H' := fun z H' e => by
          have y := q H' e
          rw [hm, z] at y
          exact y
        refine ⟨_, rfl, _, 2, rfl, .inl ⟨_, sq_lst upd_same, rfl⟩, rfl, _, rfl, iteF ?_⟩
        refine ⟨_, rfl, pa, _, _, _, rfl, rfl, sq_lst upd_same, rfl, h, rfl, by omega, fun H4 e4 => ⟨_, rfl, ?_⟩⟩
        have p4 := e4 _ _ upd_same
        have X4 : Ex H H4 := (X3 _).trans e4
        cases hn : Mo.num? h with
        | none => exact no (by rw [hc, hn]; split <;> rfl) H4 X4
        | some n =>
          refine iteF ?_
          have ms : (SX.S m).length ≤ sizeLine := Nat.le_of_lt (small_len (by rw [SX.S_len]; omega))
          refine ⟨_, rfl, pa, _, _, _, rfl, rfl, sq_lst p4, rfl, _, m.length, rfl, ?_, rfl, _, rfl, ?_⟩
          · exact ⟨ms, (SX.S_len m).symm⟩
          by_cases h2 : m.length = 2
          · rw [decide_eq_true (show V.int (m.length : Int) = V.int 2 by rw [h2]; rfl)]
            refine iteF ?_
            refine ⟨_, rfl, pa, _, _, _, rfl, rfl, sq_lst p4, rfl, _, rfl, fun D nD => lc_fm L2.walk_str (fun i => some (.bl (Mo.isFig (m.getD i 0)))) (fun H' => Ex H4 H') (fun H' z e => ex_mut e nD) (.refl H4) (by show m.toArray.size ≤ 100000; simp; omega) (fun _ _ => trivial) (fun i x H5 H6 acc N hi e hD la y k => ?_) fun H5 e5 d5 => ?_⟩
            · obtain ⟨rfl, c, hc, rfl⟩ := y
              refine ⟨rfl, _, rfl, c, _, rfl, rfl, acc, hD, la, ?_⟩
              rw [fig_in]
              have e2 : m.getD i 0 = c := by
                have hc2 : m[i]? = some c := by simpa using hc
                rw [List.getD_eq_getElem?_getD, hc2]
                rfl
              have k2 := k H6 e hD
              rw [e2] at k2
              exact k2
            · have p5 := e5 _ _ p4
              have X5 : Ex H H5 := X4.trans e5
              refine ⟨D, m.map Mo.isFig, rfl, sq_lst ?_, ?_⟩
              · rw [d5]
                have e3 := range_map_get m 0 (fun c => V.bl (Mo.isFig c))
                have e4 : m.toArray.size = m.length := by simp
                show some (HO.lst (List.filterMap _ (List.range m.toArray.size))) = _
                rw [e4, e3, List.map_map]
                rfl
              · have e5 : (m.map Mo.isFig).all id = Mo.figs m := by
                  unfold Mo.figs
                  rw [List.all_map]
                  cases m with
                  | nil => cases h2
                  | cons a r => rfl
                rw [e5]
                refine ⟨_, rfl, ?_⟩
                cases hf : Mo.figs m with
                | false => exact no (by rw [hc, hf, Bool.and_false]; rfl) H5 X5
                | true =>
                  have hg : Mo.figs h = true := by
                    cases f : Mo.figs h with
                    | true => rfl
                    | false =>
                      unfold Mo.num? at hn
                      rw [f] at hn
                      cases hn
                  obtain ⟨h0, hd⟩ := Mo.figs_iff.mp hg
                  obtain ⟨m0, md⟩ := Mo.figs_iff.mp hf
                  have en : n = Mo.val h := by
                    unfold Mo.num? at hn
                    split at hn
                    · exact (Option.some.inj hn).symm
                    · cases hn
                  subst en
                  have hc3 : Mo.clkOf u = if Mo.val h < 24 ∧ Mo.val m < 60 then some (Mo.val h * 60 + Mo.val m) else none := by
                    rw [hc, hf, hn, decide_eq_true h2]
                    rfl
                  refine iteF ?_
                  refine ⟨_, rfl, pa, _, _, _, rfl, rfl, sq_lst p5, rfl, _, _, rfl, SX.int_S (Mo.all_fig hd) h0 (by omega), by rw [SX.S_len]; omega, _, _, rfl, rfl, _, rfl, ite2 (fun c => ?_) (fun c => ?_)⟩
                  · exact no (by rw [hc3, if_neg (fun z => by have := of_decide_eq_true c; have : (23 : Int) < (Mo.val h : Nat) := this; omega)]) H5 X5
                  · refine ⟨_, rfl, pa, _, _, _, rfl, rfl, sq_lst p5, rfl, _, _, rfl, SX.int_S (Mo.all_fig md) m0 (by omega), by rw [SX.S_len]; omega, _, _, rfl, rfl, _, rfl, ite2 (fun c2 => ?_) (fun c2 => ?_)⟩
                    · exact no (by rw [hc3, if_neg (fun z => by have : (59 : Int) < (Mo.val m : Nat) := of_decide_eq_true c2; omega)]) H5 X5
                    · have y1 : Mo.val h < 24 := by
                        have : ¬ (23 : Int) < (Mo.val h : Nat) := fun z => c (decide_eq_true z)
                        omega
                      have y2 : Mo.val m < 60 := by
                        have : ¬ (59 : Int) < (Mo.val m : Nat) := fun z => c2 (decide_eq_true z)
                        omega
                      have y := q H5 X5
                      rw [hm, hc3, if_pos ⟨y1, y2⟩] at y
                      have ez : ((d * 1440 + (Mo.val h * 60 + Mo.val m) : Nat) : Int) = (d : Int) * 1440 + (Mo.val h : Int) * 60 + (Mo.val m : Int) := by omega
                      rw [show (match Option.map (fun m => d * 1440 + m) (some (Mo.val h * 60 + Mo.val m)) with | some m => V.int (m : Nat) | none => V.non) = V.int ((d * 1440 + (Mo.val h * 60 + Mo.val m) : Nat) : Int) from rfl, ez] at y
                      refine ⟨_, rfl, _, _, rfl, rfl, .inr (by decide), ?_⟩
                      refine ⟨_, rfl, pa, _, _, _, rfl, rfl, sq_lst p5, rfl, _, _, rfl, SX.int_S (Mo.all_fig hd) h0 (by omega), by rw [SX.S_len]; omega, _, _, rfl, rfl, .inr (by decide), ?_⟩
                      refine ⟨_, _, rfl, rfl, ?_⟩
                      refine ⟨_, rfl, pa, _, _, _, rfl, rfl, sq_lst p5, rfl, _, _, rfl, SX.int_S (Mo.all_fig md) m0 (by omega), by rw [SX.S_len]; omega, _, _, rfl, rfl, ?_⟩
                      exact y
          · rw [decide_eq_false (show ¬ V.int (m.length : Int) = V.int 2 from fun z => by injection z with z; omega)]
            exact no (by rw [hc, decide_eq_false h2]; rfl) H4 X4
      · refine ⟨_, rfl, _, (TL.spl [58] 0 [] u).length, rfl, .inl ⟨_, sq_lst upd_same, by simp⟩, rfl, _, rfl, ?_⟩
        rw [decide_eq_false (show ¬ V.int (((TL.spl [58] 0 [] u).length : Nat) : Int) = V.int 2 from fun z => by injection z with z; omega)]
        have z := q _ (X3 (.lst (List.map V.str (List.map SX.S (TL.spl [58] 0 [] u)))))
        rw [hm, hc] at z
        exact z
    · rw [decide_eq_true (show (2 : Int) < (((W ++ [u]).length : Nat) : Int) by simp; omega)]
      have z := q _ (X3 (.lst (List.map V.str (List.map SX.S (TL.spl [58] 0 [] u)))))
      rw [hm] at z
      exact z

theorem ok__law_read {P : Program} {w : World} {K : PySem.W.Frag} {mg : Str → Option Value} {base : Heap} (T : Env K mg) : Fc P w K mg base 2 (He.ga K "_law_read") [] (sp__law_read K) := by
  obtain ⟨fd, D, F⟩ := fb__law_read T
  exact F.all (D.bindsN fun _ _ _ _ _ _ us hl => match us, hl with | [_], _ => rfl)
end
section
def outV (l : List Nat) : List V := match Mo.momOf l with
  | some m => [.str "read", .int (m : Nat)]
  | none => [.str "refused", .bl true, .bl false]
def sp__law_told (K : PySem.W.Frag) : Sp := fun vs H Q _ => ∃ l : List Nat, vs = [.str (SX.S l)] ∧ l.length ≤ 600 ∧ ∀ t H', Ex H H' → H' t = some (.tup (outV l)) → Q (.ref t) H'
theorem fb__law_told {P : Program} {w : World} {K : PySem.W.Frag} {mg : Str → Option Value} {base : Heap} (T : Env K mg) : ∃ fd, FunD K "_law_told" "_law_told" (defArgs s__law_told) (defBody s__law_told) (defScope s__law_told) [] [] (He.ga K "_law_told") fd ∧ Fb P w K mg base 7 (He.ga K "_law_told") fd ["_law_text_here"] (sp__law_told K) := by
  obtain ⟨fd, F⟩ := T.f__law_told
  refine ⟨fd, F, fb_of F sc__law_told (fun vs H Q E h => ?_) (fun cdv A outer s H vs Q E hr h => ?_)⟩
  · obtain ⟨l, rfl, _⟩ := h
    rfl
  · obtain ⟨l, rfl, hl, q⟩ := h
    refine ⟨_, (pss_cons (ps_set (i := 1) sc__law_told.nd rfl (Or.inl rfl) pe_non)
      (pss_cons (ps_try_tup (i := 2) rfl rfl sc__law_told.nd rfl rfl T.g_GoingError T.g_LackError T.g_BookError (fun W pn xe tk po => (pss_one (ps_set (i := 1) sc__law_told.nd rfl (Or.inl rfl) (pe_tup (pa_cons pe_str (pa_cons (c_call (ok_read_moment T) (hr.mono (by decide)) T.g_read_moment T.k_read_moment tk (pa_cons (pv 0) pa_nil)) pa_nil)))))) (fun a oe cls d pn hz hf => (pss_cons (ps_set (i := 3) sc__law_told.nd rfl (Or.inl rfl) (pe_callB (call_isAT hz hf) (by rfl) T.n_isinstance (by decide +kernel) (pa_cons (pv 2) (pa_cons (pe_tup (pa_cons (pe_glob (v := .ref _) (by rfl) T.g_NoCard rfl) (pa_cons (pe_glob (v := .ref _) (by rfl) T.g_NoDays rfl) (pa_cons (pe_glob (v := .ref _) (by rfl) T.g_NoName rfl) (pa_cons (pe_glob (v := .ref _) (by rfl) T.g_NoPiece rfl) (pa_cons (pe_glob (v := .ref _) (by rfl) T.g_NoRow rfl) (pa_cons (pe_glob (v := .ref _) (by rfl) T.g_NoText rfl) (pa_cons (pe_glob (v := .ref _) (by rfl) T.g_LackError rfl) (pa_cons (pe_glob (v := .ref _) (by rfl) T.g_BookError rfl) pa_nil))))))))) pa_nil))))
      (pss_one (ps_set (i := 1) sc__law_told.nd rfl (Or.inl rfl) (pe_tup (pa_cons pe_str (pa_cons (pe_and (pe_callB (call_isA hz hf) (by rfl) T.n_isinstance (by decide +kernel) (pa_cons (pv 2) (pa_cons (pe_glob (v := .ref _) (by rfl) T.g_NoTime rfl) pa_nil))) (pe_and (pe_callB (call_isA hz hf) (by rfl) T.n_isinstance (by decide +kernel) (pa_cons (pv 2) (pa_cons (pe_glob (v := .ref _) (by rfl) T.g_GoingError rfl) pa_nil))) (pe_one (pe_callB (call_isA hz hf) (by rfl) T.n_isinstance (by decide +kernel) (pa_cons (pv 2) (pa_cons (pe_bltn (v := .ty "ValueError") (by rfl) T.n_ValueError (by decide +kernel) rfl) pa_nil)))))) (pa_cons (pv 3) pa_nil)))))))))
      (pss_one (ps_ret (pv 1))))), ?_⟩
    refine ⟨_, rfl, _, rfl, .inl ⟨l, rfl, hl, fun n hn H1 e1 => ?_, fun hn H1 e1 => ?_⟩⟩
    · refine ⟨by show 2 ≤ sizeLine; decide, fun t nt => ?_⟩
      refine ⟨_, rfl, ?_⟩
      refine q t _ (e1.trans (ex_new nt)) ?_
      rw [upd_same]
      unfold outV
      rw [hn]
    · refine ⟨T.exm_NoTime, fun a na => ?_⟩
      refine ⟨_, rfl, by show 8 ≤ sizeLine; decide, fun tp np => ?_⟩
      refine ⟨_, tp, _, _, false, rfl, rfl, T.xc_NoTime, rfl, upd_same, .cons (.own _) (.cons (.own _) (.cons (.own _) (.cons (.own _) (.cons (.own _) (.cons (.own _) (.cons (.own _) (.cons (.own _) .nil))))))), ?_, ?_⟩
      · exact kitAny_cons T.kit_NoTime_NoCard (fun _ => kitAny_cons T.kit_NoTime_NoDays (fun _ => kitAny_cons T.kit_NoTime_NoName (fun _ => kitAny_cons T.kit_NoTime_NoPiece (fun _ => kitAny_cons T.kit_NoTime_NoRow (fun _ => kitAny_cons T.kit_NoTime_NoText (fun _ => kitAny_cons T.kit_NoTime_LackError (fun _ => kitAny_cons T.kit_NoTime_BookError (fun _ => kitAny_nil) (by decide)) (by decide)) (by decide)) (by decide)) (by decide)) (by decide)) (by decide)) (by decide)
      refine ⟨_, rfl, ⟨_, _, _, true, rfl, rfl, T.xc_NoTime, rfl, .own _, T.kit_NoTime_NoTime, true, rfl, ?_⟩⟩
      refine ⟨_, rfl, _, _, _, true, rfl, rfl, T.xc_NoTime, rfl, .own _, T.kit_NoTime_GoingError, true, rfl, ?_⟩
      refine ⟨_, rfl, _, _, _, true, rfl, rfl, T.xc_NoTime, rfl, .ty "ValueError", T.kit_NoTime_ValueError, ?_⟩
      refine ⟨_, rfl, by show 3 ≤ sizeLine; decide, fun t nt => ?_⟩
      refine ⟨_, rfl, ?_⟩
      refine q t _ (e1.trans ((ex_new np).trans (ex_new nt))) ?_
      rw [upd_same]
      unfold outV
      rw [hn]

theorem ok__law_told {P : Program} {w : World} {K : PySem.W.Frag} {mg : Str → Option Value} {base : Heap} (T : Env K mg) : Fc P w K mg base 7 (He.ga K "_law_told") [] (sp__law_told K) := by
  obtain ⟨fd, D, F⟩ := fb__law_told T
  exact F.all (D.bindsN fun _ _ _ _ _ _ us hl => match us, hl with | [_], _ => rfl)
end
section
def sp__law_due (K : PySem.W.Frag) : Sp := fun vs H Q _ => ∃ l : List Nat, vs = [.str (SX.S l)] ∧ l.length ≤ 600 ∧ ∀ t H', Ex H H' → H' t = some (.tup (outV l)) → Q (.ref t) H'
theorem fb__law_due {P : Program} {w : World} {K : PySem.W.Frag} {mg : Str → Option Value} {base : Heap} (T : Env K mg) : ∃ fd, FunD K "_law_due" "_law_due" (defArgs s__law_due) (defBody s__law_due) (defScope s__law_due) [] [] (He.ga K "_law_due") fd ∧ Fb P w K mg base 3 (He.ga K "_law_due") fd ["_law_text_here"] (sp__law_due K) := by
  obtain ⟨fd, F⟩ := T.f__law_due
  refine ⟨fd, F, fb_of F sc__law_due (fun vs H Q E h => ?_) (fun cdv A outer s H vs Q E hr h => ?_)⟩
  · obtain ⟨l, rfl, _⟩ := h
    rfl
  · obtain ⟨l, rfl, hl, q⟩ := h
    refine ⟨_, (pss_cons (ps_set (i := 1) sc__law_due.nd rfl (Or.inl rfl) (c_call (ok__law_read T) (hr.mono (by decide)) T.g__law_read T.k__law_read takes0 (pa_cons (pv 0) pa_nil)))
      (pss_cons (ps_if (pt_cmpR op_isN (pv 1) pe_non (nomark _))
      (pss_one (ps_ret (pe_tup (pa_cons pe_str (pa_cons pe_bl (pa_cons pe_bl pa_nil))))))
      pss_nil)
      (pss_one (ps_ret (pe_tup (pa_cons pe_str (pa_cons (pv 1) pa_nil))))))), ?_⟩
    refine ⟨_, rfl, l, rfl, hl, fun H1 e1 => ?_⟩
    cases hn : Mo.momOf l with
    | none =>
      refine ⟨_, rfl, rfl, _, rfl, iteT ?_⟩
      refine ⟨by show 3 ≤ sizeLine; decide, fun t nt => ?_⟩
      refine q t _ (e1.trans (ex_new nt)) ?_
      rw [upd_same]
      unfold outV
      rw [hn]
    | some m =>
      refine ⟨_, rfl, rfl, _, rfl, iteF ?_⟩
      refine ⟨_, rfl, by show 2 ≤ sizeLine; decide, fun t nt => ?_⟩
      refine q t _ (e1.trans (ex_new nt)) ?_
      rw [upd_same]
      unfold outV
      rw [hn]
theorem Mo_mom_lt {l : List Nat} {m : Nat} (h : Mo.momOf l = some m) : m < 10 ^ (l.length + 4) := by
  have cl : ∀ {u : List Nat} {k : Nat}, Mo.clkOf u = some k → k < 1440 := fun {u k} e => by
    unfold Mo.clkOf at e
    split at e
    · cases e
    · split at e
      · split at e
        · split at e
          · rename_i c
            have := Option.some.inj e
            omega
          · cases e
        · cases e
      · cases e
  unfold Mo.momOf at h
  have p4 : (10 : Nat) ^ (l.length + 4) = 10 ^ l.length * 10000 := by rw [Nat.pow_add]
  have p0 : 0 < 10 ^ l.length := Nat.pow_pos (by decide)
  cases e : Mo.rcut 32 l with
  | none =>
    rw [e] at h
    have := cl h
    omega
  | some z =>
    obtain ⟨a, t⟩ := z
    rw [e] at h
    simp only at h
    cases d : Mo.dayOf a with
    | none =>
      rw [d] at h
      cases h
    | some n =>
      rw [d] at h
      simp only at h
      cases c : Mo.clkOf t with
      | none =>
        rw [c] at h
        cases h
      | some k =>
        rw [c] at h
        have e2 : n * 1440 + k = m := Option.some.inj h
        have hk := cl c
        have hn : n < 10 ^ a.length := by
          unfold Mo.dayOf at d
          cases hu : Mo.num? a with
          | none =>
            rw [hu] at d
            cases d
          | some j =>
            have ej : j = n := by
              rw [hu] at d
              cases j with
              | zero => cases d
              | succ i => exact Option.some.inj d
            subst ej
            unfold Mo.num? at hu
            split at hu
            · rename_i y
              have y2 := (Mo.figs_iff.mp (Bool.and_eq_true_iff.mp y).1).2
              have := Mo.val_lt y2
              have z := Option.some.inj hu
              rw [← z]
              exact this
            · cases hu
        have ha : a.length ≤ l.length := by
          have := (Mo.rcut_is e).1
          rw [this]
          simp
        have := Nat.pow_le_pow_right (n := 10) (by decide) ha
        omega
def outD (l : List Nat) : PyData := match Mo.momOf l with
  | some m => .tuple [.str "read", .int (m : Nat)]
  | none => .tuple [.str "refused", .bool true, .bool false]
theorem rr_out {K : PySem.W.Frag} {H : Hp} {t : Addr} {l : List Nat} {Q : VK} (ht : H t = some (.tup (outV l))) (hl : l.length ≤ 120) (q : Q (.str (outD l).shown) H) : rRepr K [.ref t] H Q := by
  cases h : Mo.momOf l with
  | none =>
    have e1 : outV l = [.str "refused", .bl true, .bl false] := by unfold outV; rw [h]
    have e2 : outD l = .tuple [.str "refused", .bool true, .bool false] := by unfold outD; rw [h]
    rw [e1] at ht
    rw [e2] at q
    exact rr_data (.tup (sq_tup ht) (.cons (.str _) (.cons (.bl _) (.cons (.bl _) .nil)))) (by decide +kernel) (by decide +kernel) (by decide +kernel) q
  | some m =>
    have e1 : outV l = [.str "read", .int (m : Nat)] := by unfold outV; rw [h]
    have e2 : outD l = .tuple [.str "read", .int (m : Nat)] := by unfold outD; rw [h]
    rw [e1] at ht
    rw [e2] at q
    have hm : m < 10 ^ 150 := Nat.lt_of_lt_of_le (Mo_mom_lt h) (Nat.pow_le_pow_right (by decide) (by omega))
    have hi : okI (m : Nat) = true := okI_of (by omega) (by exact_mod_cast hm)
    refine rr_data (.tup (sq_tup ht) (.cons (.str _) (.cons (.int _) .nil))) ?_ ?_ ?_ q
    · show (okT (Str.ofString "read") && (okI (m : Nat) && true)) = true
      rw [hi]
      decide +kernel
    · show 10 * (Str.ofString "read").length + 2 + 2 + (1921 + 2 + 0) + 3 ≤ 16000000
      decide +kernel
    · show max 0 (max 0 0) + 1 ≤ 60
      decide

theorem ok__law_due {P : Program} {w : World} {K : PySem.W.Frag} {mg : Str → Option Value} {base : Heap} (T : Env K mg) : Fc P w K mg base 3 (He.ga K "_law_due") [] (sp__law_due K) := by
  obtain ⟨fd, D, F⟩ := fb__law_due T
  exact F.all (D.bindsN fun _ _ _ _ _ _ us hl => match us, hl with | [_], _ => rfl)
end
section
def sp_law (K : PySem.W.Frag) : Sp := fun vs H Q _ => ∃ (a : Addr) (ns : List Int), vs = [.ref a] ∧ SqL K H a (ns.map V.int) ∧ ns.length ≤ 63 ∧ ∀ H', Q (.bl true) H'
theorem ok_law {P : Program} {w : World} {K : PySem.W.Frag} {mg : Str → Option Value} {base : Heap} (T : Env K mg) {fd : FuncData} (F : FunD K "law" "law" (defArgs s_law) (defBody s_law) (defScope s_law) [] [] (He.ga K "law") fd) : Fb P w K mg base 8 (He.ga K "law") fd ["_law_script"] (sp_law K) := by
  refine fb_of F sc_law (fun vs H Q E h => ?_) (fun cdv A outer s H vs Q E hr h => ?_)
  · obtain ⟨a, ns, rfl, _⟩ := h
    rfl
  · obtain ⟨a, ns, rfl, hS, hl, q⟩ := h
    refine ⟨_, (pss_cons (ps_for (passes_of rfl) rfl (pi_range1 (by rfl) T.n_range (pa_cons (pe_callB (call_max2 rfl) (by rfl) T.n_max (by decide +kernel) (pa_cons pe_int (pa_cons (pe_callB (call_min2 rfl) (by rfl) T.n_min (by decide +kernel) (pa_cons (pe_callB call_len (by rfl) T.n_len (by decide +kernel) (pa_cons (pv 0) pa_nil)) (pa_cons pe_int pa_nil))) pa_nil))) pa_nil)) (pg_name (i := 1) sc_law.nd rfl (Or.inl rfl))
      (pss_cons (ps_set (i := 2) sc_law.nd rfl (Or.inl rfl) (c_call (ok__law_pot T) (hr.mono (by decide)) T.g__law_pot T.k__law_pot takes0 (pa_cons (pv 0) (pa_cons (pv 1) pa_nil))))
      (pss_cons (ps_set (i := 3) sc_law.nd rfl (Or.inl rfl) (c_call (ok__law_take T) (hr.mono (by decide)) T.g__law_take T.k__law_take takes0 (pa_cons (pv 2) (pa_cons pe_int pa_nil))))
      (pss_cons (ps_set (i := 4) sc_law.nd rfl (Or.inl rfl) (c_call (ok__law_text T) (hr.mono (by decide)) T.g__law_text T.k__law_text takes0 (pa_cons (pv 2) pa_nil)))
      (pss_cons (ps_set (i := 5) sc_law.nd rfl (Or.inl rfl) (pv 4))
      (pss_cons (ps_for (passes_of rfl) rfl (pi_range1 (by rfl) T.n_range (pa_cons (pe_op op_add pe_int (pe_op op_mod (pv 3) pe_int)) pa_nil)) (pg_name (i := 6) sc_law.nd rfl (Or.inl rfl))
      (pss_one (ps_set (i := 5) sc_law.nd rfl (Or.inl rfl) (c_call (ok__law_spoilt T) (hr.mono (by decide)) T.g__law_spoilt T.k__law_spoilt takes0 (pa_cons (pv 2) (pa_cons (pv 5) pa_nil))))))
      (Evl.pss_cut (ps_if (pt_cmpR op_eq (pv 3) pe_int (nomark _))
      (pss_one (ps_set (i := 5) sc_law.nd rfl (Or.inl rfl) (c_call (ok__law_odd T) (hr.mono (by decide)) T.g__law_odd T.k__law_odd takes0 (pa_cons (pv 2) pa_nil))))
      pss_nil)
      (pss_one (ps_for (passes_of rfl) rfl (pi_tup (pe_tup (pa_cons (pv 5) (pa_cons (pv 4) pa_nil)))) (pg_name (i := 7) sc_law.nd rfl (Or.inl rfl))
      (pss_one (ps_if (pt_cmpR op_ne (pe_callB (call_repr hr) (by rfl) T.n_repr (by decide +kernel) (pa_cons (c_call (ok__law_told T) (hr.mono (by decide)) T.g__law_told T.k__law_told takes0 (pa_cons (pv 7) pa_nil)) pa_nil)) (pe_callB (call_repr hr) (by rfl) T.n_repr (by decide +kernel) (pa_cons (c_call (ok__law_due T) (hr.mono (by decide)) T.g__law_due T.k__law_due takes0 (pa_cons (pv 7) pa_nil)) pa_nil)) (nomark _))
      (pss_one (ps_ret pe_bl))
      pss_nil)))))))))))
      (pss_one (ps_ret pe_bl))), ?_⟩
    refine ⟨_, rfl, _, _, rfl, .inl ⟨_, hS, rfl⟩, _, _, rfl, _, _, rfl, _, rfl, (turns_lo 20 _ (by decide)), (turns_hi 20 _ (by decide)), for_range (fun i σ H' => Ex H H' ∧ ∃ v1 v2 v3 v4 v5 v6 v7, σ = [some (.ref a), v1, v2, v3, v4, v5, v6, v7]) ⟨.refl H, _, _, _, _, _, _, _, rfl⟩ ?_ ?_⟩
    · rintro i σ H1 hi ⟨X1, v1, v2, v3, v4, v5, v6, v7, rfl⟩
      have i1 : i < 1000 := turns_lt 20 _ (by decide) hi
      refine ⟨_, rfl, _, rfl, a, ns, _, rfl, ex_sql X1 hS, by omega, by omega, fun p H2 np P2 K2 => ?_⟩
      have X2 : Ex H H2 := fun b o e => by rw [K2 b (ne_of_none (X1 b o e) np)]; exact X1 b o e
      have hp0 : H p = none := ex_fresh X1 np
      refine ⟨_, rfl, p, 5, rfl, P2, by decide, by decide, fun way H3 w0 w1 P3 => ?_⟩
      refine ⟨_, rfl, p, rfl, P3.1, fun g H4 lg P4 => ?_⟩
      have P24 := P3.trans P4
      have X4 : Ex H H4 := PotOn.ex X2 hp0 P24
      refine ⟨_, rfl, ?_⟩
      have ow : (1 + way % 2).toNat ≤ 2 := by omega
      refine ⟨_, rfl, _, _, rfl, rfl, by show (0 : Int) < 2; decide, _, _, rfl, rfl, _, rfl, by omega, by omega, for_range (fun j σ H' => j ≤ 2 ∧ PotOn H2 H' p ∧ ∃ (z : List Nat) (v1 v6 v7 : Option V), z.length ≤ 100 + 3 * j ∧ σ = [some (.ref a), v1, some (.ref p), some (.int way), some (.str (SX.S g)), some (.str (SX.S z)), v6, v7]) ⟨by omega, P24, g, _, _, _, lg, rfl⟩ ?_ ?_⟩
      · rintro j σ H5 hj ⟨hj2, P5, z, v1, v6, v7, lz, rfl⟩
        refine ⟨_, rfl, _, rfl, p, z, rfl, P5.1, by omega, fun z' H6 lz' P6 => ⟨by omega, P5.trans P6, z', _, _, _, by omega, rfl⟩⟩
      · rintro σ H5 ⟨hj2, P5, z, v1, v6, v7, lz, rfl⟩
        refine ⟨fun σ' H' => PotOn H2 H' p ∧ ∃ (z : List Nat) (v1 v6 v7 : Option V), z.length ≤ 120 ∧ σ' = [some (.ref a), v1, some (.ref p), some (.int way), some (.str (SX.S g)), some (.str (SX.S z)), v6, v7], ?_, ?_⟩
        · refine ⟨_, rfl, rfl, _, rfl, ite2 (fun _ => ?_) (fun _ => ?_)⟩
          · refine ⟨_, rfl, p, rfl, P5.1, fun z' H6 lz' P6 => ⟨P5.trans P6, z', _, _, _, by omega, rfl⟩⟩
          · exact ⟨P5, z, _, _, _, by omega, rfl⟩
        · rintro σ H6 ⟨P6, z, v1, v6, v7, lz, rfl⟩
          have X6 : Ex H H6 := PotOn.ex X2 hp0 P6
          refine ⟨_, rfl, _, rfl, by show 2 ≤ sizeLine; decide, fun t nt => ?_⟩
          refine ⟨t, rfl, ⟨_, sq_tup upd_same⟩, for_tup (fun j σ H' => Ex (upd H6 t (.tup [.str (SX.S z), .str (SX.S g)])) H' ∧ ∃ (v1 v3 v4 v5 v6 v7 v8: Option V), σ = [some (.ref a), v1, v3, v4, v5, v6, v7, v8]) ⟨.refl _, _, _, _, _, _, _, _, rfl⟩ (fun j σ H' _ e => sq_tup (e.1 _ _ upd_same)) ?_ ?_⟩
          · rintro j x σ H7 hx ⟨X7, v1, v3, v4, v5, v6, v7, v8, rfl⟩
            have hy : ∃ y : List Nat, x = .str (SX.S y) ∧ y.length ≤ 120 := by
              have hm := List.mem_of_getElem? hx
              simp only [List.mem_cons, List.not_mem_nil, or_false] at hm
              rcases hm with rfl | rfl
              · exact ⟨_, rfl, lz⟩
              · exact ⟨_, rfl, by omega⟩
            obtain ⟨y, rfl, ly⟩ := hy
            refine ⟨_, rfl, y, rfl, by omega, fun t1 H8 e8 h8 => rr_out h8 ly ?_⟩
            refine ⟨_, rfl, y, rfl, by omega, fun t2 H9 e9 h9 => rr_out h9 ly ?_⟩
            refine ⟨rfl, _, rfl, iteNS rfl ?_⟩
            exact ⟨X7.trans (e8.trans e9), _, _, _, _, _, _, _, rfl⟩
          · rintro σ H7 ⟨X7, v1, v3, v4, v5, v6, v7, v8, rfl⟩
            exact ⟨X6.trans ((ex_new nt).trans X7), _, _, _, _, _, _, _, rfl⟩
    · rintro σ H1 ⟨X1, v1, v2, v3, v4, v5, v6, v7, rfl⟩
      exact q H1

end
end Toy
namespace Toy
open PySem PySem.Spec PyProof.Rows L2 L3
def xf : List Fx := [fun K => (He.Fa.glo "is_whole").ok K,
  fun K => (He.Fa.glo "is_moment").ok K,
  fun K => (He.Fa.glo "want_moment").ok K,
  fun K => (He.Fa.glo "want_below").ok K,
  fun K => (He.Fa.glo "moment_at").ok K,
  fun K => (He.Fa.glo "are_figures").ok K,
  fun K => (He.Fa.glo "number_of").ok K,
  fun K => (He.Fa.glo "day_of").ok K,
  fun K => (He.Fa.glo "read_moment").ok K,
  fun K => (He.Fa.glo "_law_pot").ok K,
  fun K => (He.Fa.glo "_law_take").ok K,
  fun K => (He.Fa.glo "_law_great").ok K,
  fun K => (He.Fa.glo "_law_signs").ok K,
  fun K => (He.Fa.glo "_law_text").ok K,
  fun K => (He.Fa.glo "_law_spoilt").ok K,
  fun K => (He.Fa.glo "_law_odd").ok K,
  fun K => (He.Fa.glo "_law_is_number").ok K,
  fun K => (He.Fa.glo "_law_read").ok K,
  fun K => (He.Fa.glo "_law_told").ok K,
  fun K => (He.Fa.glo "_law_due").ok K,
  fun K => (He.Fa.glo "law").ok K,
  fun K => (He.Fa.int "HOUR" (60)).ok K,
  fun K => (He.Fa.int "DAY" (1440)).ok K,
  fun K => (He.Fa.int "HOURS" (24)).ok K,
  fun K => (He.Fa.str "FIGURES" "0123456789").ok K,
  fun K => (He.Fa.str "COLON" ":").ok K,
  fun K => (He.Fa.str "BLANK" " ").ok K,
  fun K => (He.Fa.free "ValueError").ok K,
  fun K => (He.Fa.free "all").ok K,
  fun K => (He.Fa.free "bool").ok K,
  fun K => (He.Fa.free "divmod").ok K,
  fun K => (He.Fa.free "int").ok K,
  fun K => (He.Fa.free "isinstance").ok K,
  fun K => (He.Fa.free "len").ok K,
  fun K => (He.Fa.free "max").ok K,
  fun K => (He.Fa.free "min").ok K,
  fun K => (He.Fa.free "range").ok K,
  fun K => (He.Fa.free "repr").ok K,
  fun K => (He.Fa.free "str").ok K,
  fun K => (He.Fa.glo "GoingError").ok K,
  exoB bmV "ValueError.__new__" "GoingError",
  fun K => (He.Fa.glo "LackError").ok K,
  exoB bmL "LookupError.__new__" "LackError",
  fun K => (He.Fa.glo "BookError").ok K,
  exoB bmR "RuntimeError.__new__" "BookError",
  fun K => (He.Fa.glo "NoTime").ok K,
  exoB bmV "ValueError.__new__" "NoTime",
  fun K => (He.Fa.glo "NoPiece").ok K,
  exoB bmV "ValueError.__new__" "NoPiece",
  fun K => (He.Fa.glo "NoDays").ok K,
  exoB bmV "ValueError.__new__" "NoDays",
  fun K => (He.Fa.glo "NoCard").ok K,
  exoB bmV "ValueError.__new__" "NoCard",
  fun K => (He.Fa.glo "NoName").ok K,
  exoB bmV "ValueError.__new__" "NoName",
  fun K => (He.Fa.glo "NoRow").ok K,
  exoB bmV "ValueError.__new__" "NoRow",
  fun K => (He.Fa.glo "NoText").ok K,
  excCB "NoTime",
  kitF "NoTime" "GoingError" true,
  kitF "NoTime" "LackError" false,
  kitF "NoTime" "BookError" false,
  kitF "NoTime" "NoTime" true,
  kitF "NoTime" "NoPiece" false,
  kitF "NoTime" "NoDays" false,
  kitF "NoTime" "NoCard" false,
  kitF "NoTime" "NoName" false,
  kitF "NoTime" "NoRow" false,
  kitF "NoTime" "NoText" false,
  kitFT "NoTime" "ValueError" true,
  kitFT "NoTime" "LookupError" false,
  kitFT "NoTime" "RuntimeError" false,
  exm3F "NoTime" ["GoingError", "LackError", "BookError"]]
def d_NoText_init : He.DefD := ⟨("NoText", some "__init__"), "__init__", "NoText.__init__", defArgs s_NoText_init, defBody s_NoText_init, defScope s_NoText_init, [], []⟩
def d_is_whole : He.DefD := ⟨("is_whole", none), "is_whole", "is_whole", defArgs s_is_whole, defBody s_is_whole, defScope s_is_whole, [], []⟩
def d_is_moment : He.DefD := ⟨("is_moment", none), "is_moment", "is_moment", defArgs s_is_moment, defBody s_is_moment, defScope s_is_moment, [], []⟩
def d_want_moment : He.DefD := ⟨("want_moment", none), "want_moment", "want_moment", defArgs s_want_moment, defBody s_want_moment, defScope s_want_moment, [], []⟩
def d_want_below : He.DefD := ⟨("want_below", none), "want_below", "want_below", defArgs s_want_below, defBody s_want_below, defScope s_want_below, [], []⟩
def d_moment_at : He.DefD := ⟨("moment_at", none), "moment_at", "moment_at", defArgs s_moment_at, defBody s_moment_at, defScope s_moment_at, [.int (0), .int (0), .int (0)], []⟩
def d_are_figures : He.DefD := ⟨("are_figures", none), "are_figures", "are_figures", defArgs s_are_figures, defBody s_are_figures, defScope s_are_figures, [], []⟩
def d_number_of : He.DefD := ⟨("number_of", none), "number_of", "number_of", defArgs s_number_of, defBody s_number_of, defScope s_number_of, [], []⟩
def d_day_of : He.DefD := ⟨("day_of", none), "day_of", "day_of", defArgs s_day_of, defBody s_day_of, defScope s_day_of, [], []⟩
def d_read_moment : He.DefD := ⟨("read_moment", none), "read_moment", "read_moment", defArgs s_read_moment, defBody s_read_moment, defScope s_read_moment, [], []⟩
def d__law_pot : He.DefD := ⟨("_law_pot", none), "_law_pot", "_law_pot", defArgs s__law_pot, defBody s__law_pot, defScope s__law_pot, [], []⟩
def d__law_take : He.DefD := ⟨("_law_take", none), "_law_take", "_law_take", defArgs s__law_take, defBody s__law_take, defScope s__law_take, [], []⟩
def d__law_great : He.DefD := ⟨("_law_great", none), "_law_great", "_law_great", defArgs s__law_great, defBody s__law_great, defScope s__law_great, [], []⟩
def d__law_signs : He.DefD := ⟨("_law_signs", none), "_law_signs", "_law_signs", defArgs s__law_signs, defBody s__law_signs, defScope s__law_signs, [], []⟩
def d__law_text : He.DefD := ⟨("_law_text", none), "_law_text", "_law_text", defArgs s__law_text, defBody s__law_text, defScope s__law_text, [], []⟩
def d__law_spoilt : He.DefD := ⟨("_law_spoilt", none), "_law_spoilt", "_law_spoilt", defArgs s__law_spoilt, defBody s__law_spoilt, defScope s__law_spoilt, [], []⟩
def d__law_odd : He.DefD := ⟨("_law_odd", none), "_law_odd", "_law_odd", defArgs s__law_odd, defBody s__law_odd, defScope s__law_odd, [], []⟩
def d__law_is_number : He.DefD := ⟨("_law_is_number", none), "_law_is_number", "_law_is_number", defArgs s__law_is_number, defBody s__law_is_number, defScope s__law_is_number, [], []⟩
def d__law_read : He.DefD := ⟨("_law_read", none), "_law_read", "_law_read", defArgs s__law_read, defBody s__law_read, defScope s__law_read, [], []⟩
def d__law_told : He.DefD := ⟨("_law_told", none), "_law_told", "_law_told", defArgs s__law_told, defBody s__law_told, defScope s__law_told, [], []⟩
def d__law_due : He.DefD := ⟨("_law_due", none), "_law_due", "_law_due", defArgs s__law_due, defBody s__law_due, defScope s__law_due, [], []⟩
def d_law : He.DefD := ⟨("law", none), "law", "law", defArgs s_law, defBody s_law, defScope s_law, [], []⟩
def fn : List He.DefD := [d_NoText_init, d_is_whole, d_is_moment, d_want_moment, d_want_below, d_moment_at, d_are_figures, d_number_of, d_day_of, d_read_moment, d__law_pot, d__law_take, d__law_great, d__law_signs, d__law_text, d__law_spoilt, d__law_odd, d__law_is_number, d__law_read, d__law_told, d__law_due, d_law]
abbrev R : PySem.W.OpenRow := PySem.W.OpenLaw.row PySem.Challenge.rw_shortgoings_k14_texts_of_no_moment
abbrev hk : PySem.W.Hook := hookX 6 xf fn
def ob (s : PySem.W.SharedT) : He.AlD := obsXG 6 xf fn (HandSHeadRun.getT s)
theorem ob_eq (s : PySem.W.SharedT) : ob s = hk.obs s.abs := obsXG_eq (HandSHeadRun.getT_eq s)
def ns0 : List PySem.Str := ["GoingError", "LackError", "BookError", "NoTime", "NoPiece", "NoDays", "NoCard", "NoName", "NoRow", "NoText", "HOUR", "DAY", "HOURS", "FIGURES", "COLON", "BLANK", "is_whole", "is_moment", "want_moment", "want_below", "moment_at", "are_figures", "number_of", "day_of", "read_moment", "_law_pot", "_law_take", "_law_great", "_law_signs", "_law_text"]
def ns1 : List PySem.Str := ["_law_spoilt", "_law_odd", "_law_is_number", "_law_read", "_law_told", "_law_due"]
def nss : List PySem.Str := ns0 ++ ns1
theorem run (w : World) : HandSHeadRun.RunEq R (PySem.W.view R.prog [39]) hk ob 6000 nss w := by
  intro os
  kernel_rfl
theorem env_of {K : PySem.W.Frag} {h : Heap} {mg : Str → Option Value} (X : K.In h) (G : h.Ns mainGlobals mg) (c : SaysX xf fn K) : Env K mg :=
  ⟨He.glo_ok X G (c.fact 0 (f := fun K => (He.Fa.glo "is_whole").ok K) rfl),
  He.glo_ok X G (c.fact 1 (f := fun K => (He.Fa.glo "is_moment").ok K) rfl),
  He.glo_ok X G (c.fact 2 (f := fun K => (He.Fa.glo "want_moment").ok K) rfl),
  He.glo_ok X G (c.fact 3 (f := fun K => (He.Fa.glo "want_below").ok K) rfl),
  He.glo_ok X G (c.fact 4 (f := fun K => (He.Fa.glo "moment_at").ok K) rfl),
  He.glo_ok X G (c.fact 5 (f := fun K => (He.Fa.glo "are_figures").ok K) rfl),
  He.glo_ok X G (c.fact 6 (f := fun K => (He.Fa.glo "number_of").ok K) rfl),
  He.glo_ok X G (c.fact 7 (f := fun K => (He.Fa.glo "day_of").ok K) rfl),
  He.glo_ok X G (c.fact 8 (f := fun K => (He.Fa.glo "read_moment").ok K) rfl),
  He.glo_ok X G (c.fact 9 (f := fun K => (He.Fa.glo "_law_pot").ok K) rfl),
  He.glo_ok X G (c.fact 10 (f := fun K => (He.Fa.glo "_law_take").ok K) rfl),
  He.glo_ok X G (c.fact 11 (f := fun K => (He.Fa.glo "_law_great").ok K) rfl),
  He.glo_ok X G (c.fact 12 (f := fun K => (He.Fa.glo "_law_signs").ok K) rfl),
  He.glo_ok X G (c.fact 13 (f := fun K => (He.Fa.glo "_law_text").ok K) rfl),
  He.glo_ok X G (c.fact 14 (f := fun K => (He.Fa.glo "_law_spoilt").ok K) rfl),
  He.glo_ok X G (c.fact 15 (f := fun K => (He.Fa.glo "_law_odd").ok K) rfl),
  He.glo_ok X G (c.fact 16 (f := fun K => (He.Fa.glo "_law_is_number").ok K) rfl),
  He.glo_ok X G (c.fact 17 (f := fun K => (He.Fa.glo "_law_read").ok K) rfl),
  He.glo_ok X G (c.fact 18 (f := fun K => (He.Fa.glo "_law_told").ok K) rfl),
  He.glo_ok X G (c.fact 19 (f := fun K => (He.Fa.glo "_law_due").ok K) rfl),
  He.glo_ok X G (c.fact 20 (f := fun K => (He.Fa.glo "law").ok K) rfl),
  gint_of X G (c.fact 21 (f := fun K => (He.Fa.int "HOUR" (60)).ok K) rfl),
  gint_of X G (c.fact 22 (f := fun K => (He.Fa.int "DAY" (1440)).ok K) rfl),
  gint_of X G (c.fact 23 (f := fun K => (He.Fa.int "HOURS" (24)).ok K) rfl),
  gstr_of X G (c.fact 24 (f := fun K => (He.Fa.str "FIGURES" "0123456789").ok K) rfl),
  gstr_of X G (c.fact 25 (f := fun K => (He.Fa.str "COLON" ":").ok K) rfl),
  gstr_of X G (c.fact 26 (f := fun K => (He.Fa.str "BLANK" " ").ok K) rfl),
  He.free_ok X G (c.fact 27 (f := fun K => (He.Fa.free "ValueError").ok K) rfl),
  He.free_ok X G (c.fact 28 (f := fun K => (He.Fa.free "all").ok K) rfl),
  He.free_ok X G (c.fact 29 (f := fun K => (He.Fa.free "bool").ok K) rfl),
  He.free_ok X G (c.fact 30 (f := fun K => (He.Fa.free "divmod").ok K) rfl),
  He.free_ok X G (c.fact 31 (f := fun K => (He.Fa.free "int").ok K) rfl),
  He.free_ok X G (c.fact 32 (f := fun K => (He.Fa.free "isinstance").ok K) rfl),
  He.free_ok X G (c.fact 33 (f := fun K => (He.Fa.free "len").ok K) rfl),
  He.free_ok X G (c.fact 34 (f := fun K => (He.Fa.free "max").ok K) rfl),
  He.free_ok X G (c.fact 35 (f := fun K => (He.Fa.free "min").ok K) rfl),
  He.free_ok X G (c.fact 36 (f := fun K => (He.Fa.free "range").ok K) rfl),
  He.free_ok X G (c.fact 37 (f := fun K => (He.Fa.free "repr").ok K) rfl),
  He.free_ok X G (c.fact 38 (f := fun K => (He.Fa.free "str").ok K) rfl),
  He.glo_ok X G (c.fact 39 (f := fun K => (He.Fa.glo "GoingError").ok K) rfl),
  exo_of (c.fact 40 (f := exoB bmV "ValueError.__new__" "GoingError") rfl),
  He.glo_ok X G (c.fact 41 (f := fun K => (He.Fa.glo "LackError").ok K) rfl),
  exo_of (c.fact 42 (f := exoB bmL "LookupError.__new__" "LackError") rfl),
  He.glo_ok X G (c.fact 43 (f := fun K => (He.Fa.glo "BookError").ok K) rfl),
  exo_of (c.fact 44 (f := exoB bmR "RuntimeError.__new__" "BookError") rfl),
  He.glo_ok X G (c.fact 45 (f := fun K => (He.Fa.glo "NoTime").ok K) rfl),
  exo_of (c.fact 46 (f := exoB bmV "ValueError.__new__" "NoTime") rfl),
  He.glo_ok X G (c.fact 47 (f := fun K => (He.Fa.glo "NoPiece").ok K) rfl),
  exo_of (c.fact 48 (f := exoB bmV "ValueError.__new__" "NoPiece") rfl),
  He.glo_ok X G (c.fact 49 (f := fun K => (He.Fa.glo "NoDays").ok K) rfl),
  exo_of (c.fact 50 (f := exoB bmV "ValueError.__new__" "NoDays") rfl),
  He.glo_ok X G (c.fact 51 (f := fun K => (He.Fa.glo "NoCard").ok K) rfl),
  exo_of (c.fact 52 (f := exoB bmV "ValueError.__new__" "NoCard") rfl),
  He.glo_ok X G (c.fact 53 (f := fun K => (He.Fa.glo "NoName").ok K) rfl),
  exo_of (c.fact 54 (f := exoB bmV "ValueError.__new__" "NoName") rfl),
  He.glo_ok X G (c.fact 55 (f := fun K => (He.Fa.glo "NoRow").ok K) rfl),
  exo_of (c.fact 56 (f := exoB bmV "ValueError.__new__" "NoRow") rfl),
  He.glo_ok X G (c.fact 57 (f := fun K => (He.Fa.glo "NoText").ok K) rfl),
  excC_of (c.fact 58 (f := excCB "NoTime") rfl),
  of_decide_eq_true (c.fact 59 (f := kitF "NoTime" "GoingError" true) rfl),
  of_decide_eq_true (c.fact 60 (f := kitF "NoTime" "LackError" false) rfl),
  of_decide_eq_true (c.fact 61 (f := kitF "NoTime" "BookError" false) rfl),
  of_decide_eq_true (c.fact 62 (f := kitF "NoTime" "NoTime" true) rfl),
  of_decide_eq_true (c.fact 63 (f := kitF "NoTime" "NoPiece" false) rfl),
  of_decide_eq_true (c.fact 64 (f := kitF "NoTime" "NoDays" false) rfl),
  of_decide_eq_true (c.fact 65 (f := kitF "NoTime" "NoCard" false) rfl),
  of_decide_eq_true (c.fact 66 (f := kitF "NoTime" "NoName" false) rfl),
  of_decide_eq_true (c.fact 67 (f := kitF "NoTime" "NoRow" false) rfl),
  of_decide_eq_true (c.fact 68 (f := kitF "NoTime" "NoText" false) rfl),
  of_decide_eq_true (c.fact 69 (f := kitFT "NoTime" "ValueError" true) rfl),
  of_decide_eq_true (c.fact 70 (f := kitFT "NoTime" "LookupError" false) rfl),
  of_decide_eq_true (c.fact 71 (f := kitFT "NoTime" "RuntimeError" false) rfl),
  of_decide_eq_true (c.fact 72 (f := exm3F "NoTime" ["GoingError", "LackError", "BookError"]) rfl),
  c.def_ 0 (d := d_NoText_init) rfl,
  c.def_ 1 (d := d_is_whole) rfl,
  c.def_ 2 (d := d_is_moment) rfl,
  c.def_ 3 (d := d_want_moment) rfl,
  c.def_ 4 (d := d_want_below) rfl,
  c.def_ 5 (d := d_moment_at) rfl,
  c.def_ 6 (d := d_are_figures) rfl,
  c.def_ 7 (d := d_number_of) rfl,
  c.def_ 8 (d := d_day_of) rfl,
  c.def_ 9 (d := d_read_moment) rfl,
  c.def_ 10 (d := d__law_pot) rfl,
  c.def_ 11 (d := d__law_take) rfl,
  c.def_ 12 (d := d__law_great) rfl,
  c.def_ 13 (d := d__law_signs) rfl,
  c.def_ 14 (d := d__law_text) rfl,
  c.def_ 15 (d := d__law_spoilt) rfl,
  c.def_ 16 (d := d__law_odd) rfl,
  c.def_ 17 (d := d__law_is_number) rfl,
  c.def_ 18 (d := d__law_read) rfl,
  c.def_ 19 (d := d__law_told) rfl,
  c.def_ 20 (d := d__law_due) rfl,
  c.def_ 21 (d := d_law) rfl⟩
end Toy
open PySem PySem.W PySem.Calls PyProof.Rows
set_option maxRecDepth 100000 in
set_option maxHeartbeats 0 in
theorem PySem.Challenge.cw_shortgoings_k14_texts_of_no_moment_holds : PySem.Challenge.rw_shortgoings_k14_texts_of_no_moment.Holds := by
  w_on; o_law
  refine HandSHeadRun.head_any (r := OpenLaw.row PySem.Challenge.rw_shortgoings_k14_texts_of_no_moment) (q := view (OpenLaw.row PySem.Challenge.rw_shortgoings_k14_texts_of_no_moment).prog [39]) (H := Toy.hk) (ob := Toy.ob) (M := 6000) (loose := Toy.nss) (d := HandSHeadRun.topDef (OpenLaw.row PySem.Challenge.rw_shortgoings_k14_texts_of_no_moment).prog 39) (kwd := []) Toy.ob_eq
    (by kernel_rfl) (fun s => by kernel_rfl) Toy.run (by kernel_rfl) (by kernel_rfl) (by kernel_rfl) (by rfl) (by first | assumption | decide +kernel) (by decide +kernel) ⟨rfl, rfl, rfl, rfl, rfl, by decide +kernel⟩ ?hw ?hc
  case hw => w_witness2
  case hc =>
    refine L3.walk_end (l := PySem.Challenge.rw_shortgoings_k14_texts_of_no_moment) (n := 63) (k := 8) (x := "_law_script") rfl (by decide) (by kernel_rfl) (L3.rm_caller.mono (by decide)) ?F
    intro w mg fa h Y G hmg0
    obtain ⟨K, KX, c⟩ := Y
    have hmg : mg ("law" : PySem.Str) = some (.ref fa) := by
      have e : (HandSHeadRun.topDef (OpenLaw.row PySem.Challenge.rw_shortgoings_k14_texts_of_no_moment).prog 39).name = ("law" : PySem.Str) := by kernel_rfl
      rw [← e]
      exact hmg0
    have T := Toy.env_of KX G c
    have e := hmg.symm.trans T.g_law
    cases e
    obtain ⟨fd, F⟩ := T.f_law
    have b := L2.FunD.bindsA (ps := ["_law_script"]) F fun _ _ _ _ _ _ us hl => match us, hl with | [_], _ => rfl
    exact ⟨K, fd, Toy.sp_law K, KX, fun s v => b s [v] rfl, fun H a ns hl hS => ⟨a, ns, rfl, hS, hl, fun _ => rfl⟩, fun base _ _ => Toy.ok_law T F⟩
