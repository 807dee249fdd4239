import PyProof.Rows.All
import Wide.All
import OpenK.AllK
import Wide.FinOn
import PyProof.EqAt
import PyProof.EqKinds
import PyProof.TupleCall
import HandS.ForMost
import HandS.ForExc
import HandS.Defaults
import HandS.MakeKwOnly
import HandS.WideBits
import HandS.IsInst
import HandS.Flow
import HandS.Style
import HandS.Evl
import HandS.StrMore
import HandS.TupAny
import HandS.SortInts
import HandS.RaiseMore
import HandS.Zip
import HandS.Head0
import HandS.Head1
import HandS.Head2
import HandS.HeadEnd
import HandS.HeadHook1
import HandS.HeadHook2
import HandS.Walk
import PyProof.Rows.StrJoinRep
import PyProof.StrLawsLast
import HandS.Codes
import HandS.ExcIs
import KE.KTryMore
import PySem.Challenge.RW_shortgoings_k15_what_is_no_moment
set_option Elab.async false
set_option linter.all false
set_option maxRecDepth 100000
set_option maxHeartbeats 4000000
namespace L3
open PySem PySem.Spec PyProof.Rows L2
/-! ### room, with the guards of repr told -/
structure Rm (k : Nat) (A : Around) : Prop where
  rm : Room k A
  gd : A.guards = some []
theorem Rm.mono {j k : Nat} {A : Around} (r : Rm k A) (h : j ≤ k) : Rm j A := ⟨r.rm.mono h, r.gd⟩
theorem Rm.deeper {k : Nat} {A : Around} (r : Rm (k + 1) A) (env : Env) : Rm k (A.deeper env) := ⟨r.rm.deeper env, r.gd⟩
theorem make_guards {A : Around} {C : Addr} {us : List Value} {kw : List (Str × Value)} : (A.under (.builtin "type.__call__" ⟨.ref C :: us, kw⟩)).guards = A.guards := by
  have e : Code.guards (.builtin "type.__call__" ⟨.ref C :: us, kw⟩) = [] := by
    first | rfl | simp [Code.guards, Code.isGuard, guardIds]
  show pushGuards (Code.guards (.builtin "type.__call__" ⟨.ref C :: us, kw⟩)) A.guards = A.guards
  rw [e]
  cases A.guards <;> rfl
theorem Rm.make {k : Nat} {A : Around} (r : Rm (k + 1) A) (C : Addr) (us : List Value) (kw : List (Str × Value)) : Rm k (A.under (.builtin "type.__call__" ⟨.ref C :: us, kw⟩)) :=
  ⟨r.rm.make C us kw, make_guards.trans r.gd⟩
/-! ### a def's body -/
structure Fb (P : Program) (w : World) (K : PySem.W.Frag) (mg : Str → Option Value) (base : Heap) (k : Nat) (f : Addr) (fd : FuncData) (ps : List Str) (sp : Sp) : Prop where
  len : ∀ vs H Q E, sp vs H Q E → vs.length = ps.length
  run : ∀ (A : Around) (outer : List Env) (s : Shared) (H : Hp) (args : Args) (us : List Value) (vs : List V) (Q : VK) (E : XK), Rm k A → Env0 P w K mg base A outer s H → BindsTo s fd args (ps.zip us) → Vals vs us → sp vs H Q E →
    codeAny (model P w) A (.call (.ref f) args) (CR (L2.CX P w) outer P w H s Q E) s
section
variable {P : Program} {w : World} {K : PySem.W.Frag} {mg : Str → Option Value} {base : Heap} {x qual : Str} {params : Arguments} {body : List Stmt} {scope : Scope} {dvs : List V} {kws : List (Str × V)} {f : Addr} {fd : FuncData} {k : Nat} {ps N : List Str} {sp : Sp}
theorem fb_of (F : FunD K x qual params body scope dvs kws f fd) (S : FnScope N ps scope) (len : ∀ vs H Q E, sp vs H Q E → vs.length = ps.length)
    (hbody : ∀ (cdv : Value) (A : Around) (outer : List Env) (s : Shared) (H : Hp) (vs : List V) (Q : VK) (E : XK), Rm k (A.deeper (envOfC qual scope s.heap.objs.size f cdv)) → sp vs H Q E →
      ∃ t, PSs (cxOf (L2.CX P w) P w K mg base N qual scope f cdv A outer s H E) body t ∧ t { nx := fun _ H' => Q .non H', rt := Q } (start N vs) H) : Fb P w K mg base (k + 1) f fd ps sp := by
  obtain ⟨oc, od, dV, kV, doc, pm, an, cdv, ct, osl, rfl, lk, hcd, _, _⟩ := F.ex
  refine ⟨len, fun A outer s H args us vs Q E hr e0 hb r hsp => ?_⟩
  have hl := len _ _ _ _ hsp
  have KX : K.In s.heap := e0.mod.kin.keeps fun b o e => (e0.bs b o e).1
  have lim : s.heap.NoLimit := e0.mod.nolimit.keeps fun b o e => (e0.bs b o e).1
  have hkind : ∀ y ∈ ps.zip us, scope.names.lookup y.1 = some .local ∨ (scope.names.lookup y.1 = some .cell ∧ ((cellsFrom (s.heap.objs.size + 1) scope.names []).lookup y.1).isSome = true) := fun ⟨n, v⟩ hy => by
    rcases S.par n (List.of_mem_zip hy).1 with q | q
    · exact .inl q
    · exact .inr ⟨q, PySem.W.cellsFrom_some _ _ _ (.inl q)⟩
  refine codeAny_call_function hr.rm.depth (KX _ _ lk) rfl S.co S.gen rfl (PySem.W.codeRec_of KX hcd) (hb _ _ _ _ ?_)
  refine wpAny_newFunctionEnv_cells S.kind hkind fun env he s1 x => ?_
  subst he
  refine ⟨lim.keeps x.toInCall.keep, codeAny_func ?_⟩
  obtain ⟨t, ht, hq⟩ := hbody cdv A outer s H vs Q E (hr.deeper _) hsp
  have I : Inv (cxOf (L2.CX P w) P w K mg base N qual scope f cdv A outer s H E) [] (start N vs) H s1 := inv_start S hr.rm.hd e0 hl r x
  refine wpAny_mono (ht.run [] s1 (start N vs) H _ I hq) (fun fl s' hs => ?_) fun e s' hs => hs
  have fin : ∀ {σ' : L2.St} {H' : Hp} {v : V} {u : Value}, Inv (cxOf (L2.CX P w) P w K mg base N qual scope f cdv A outer s H E) [] σ' H' s' → RelV v u → Q v H' → CE outer P w H s Q u s' :=
    fun {σ' H' v u} J rv q => ⟨v, H', J.os, J.bare, J.base, J.hok, rv, q⟩
  cases fl with
  | ret u =>
    obtain ⟨v, σ', H', J, rv, q⟩ := hs
    exact fin J rv q
  | next =>
    obtain ⟨σ', H', J, q⟩ := hs
    exact fin (v := V.non) (u := Value.none) J rfl q
  | brk =>
    obtain ⟨_, _, _, q⟩ := hs
    exact False.elim q
  | cont =>
    obtain ⟨_, _, _, q⟩ := hs
    exact False.elim q
theorem Fb.mono {j : Nat} (F : Fb P w K mg base j f fd ps sp) (h : j ≤ k) : Fb P w K mg base k f fd ps sp := ⟨F.len, fun A outer s H args us vs Q E hr => F.run A outer s H args us vs Q E (hr.mono h)⟩
theorem Fb.imp {sp' : Sp} (F : Fb P w K mg base k f fd ps sp) (h : ∀ vs H Q E, sp' vs H Q E → sp vs H Q E) : Fb P w K mg base k f fd ps sp' :=
  ⟨fun vs H Q E q => F.len vs H Q E (h _ _ _ _ q), fun A outer s H args us vs Q E hr he hb hv hs => F.run A outer s H args us vs Q E hr he hb hv (h _ _ _ _ hs)⟩
/-! ### a call of one shape: positional values us, keywords ks -/
def Fc (P : Program) (w : World) (K : PySem.W.Frag) (mg : Str → Option Value) (base : Heap) (k : Nat) (f : Addr) (ks : List Str) (sp : Sp) : Prop :=
  ∀ (A : Around) (outer : List Env) (s : Shared) (H : Hp) (us ws : List Value) (vs : List V) (Q : VK) (E : XK), Rm k A → Env0 P w K mg base A outer s H → Vals vs (us ++ ws) → ws.length = ks.length → sp vs H Q E →
    codeAny (model P w) A (.call (.ref f) ⟨us, ks.zip ws⟩) (CR (L2.CX P w) outer P w H s Q E) s
theorem Fc.mono {j : Nat} {ks : List Str} (F : Fc P w K mg base j f ks sp) (h : j ≤ k) : Fc P w K mg base k f ks sp := fun A outer s H us ws vs Q E hr => F A outer s H us ws vs Q E (hr.mono h)
theorem Fc.imp {sp' : Sp} {ks : List Str} (F : Fc P w K mg base k f ks sp) (h : ∀ vs H Q E, sp' vs H Q E → sp vs H Q E) : Fc P w K mg base k f ks sp' :=
  fun A outer s H us ws vs Q E hr he hv hl hs => F A outer s H us ws vs Q E hr he hv hl (h _ _ _ _ hs)
/-- every parameter is given by place -/
theorem Fb.all (F : Fb P w K mg base k f fd ps sp) (hb : Binds K fd ps []) : Fc P w K mg base k f [] sp := fun A outer s H us ws vs Q E hr e0 r hl h => by
  cases ws with
  | cons w ws => cases hl
  | nil =>
    rw [List.append_nil] at r
    have KX : K.In s.heap := e0.mod.kin.keeps fun b o e => (e0.bs b o e).1
    have l2 : us.length = ps.length := by rw [← r.length]; exact F.len _ _ _ _ h
    have b := hb s us KX (by rw [List.append_nil]; exact l2)
    rw [List.append_nil] at b
    exact F.run A outer s H ⟨us, []⟩ us vs Q E hr e0 b r h
/-- some by place, some by name, some left out: g puts the given ones and the defaults into the parameters' order -/
theorem Fb.shape (D : FunD K x qual params body scope dvs kws f fd) (F : Fb P w K mg base k f fd ps sp) (n : Nat) (ks : List Str) (g : {α : Type} → List α → List α → List α) (hd : dvs ≠ [])
    (hrel : ∀ {vs ds : List V} {us its : List Value}, Vals vs us → Vals ds its → Vals (g vs ds) (g us its))
    (h : ∀ (T : Addr) (kV doc pm : Value) (an : Option Addr) (cdv ct : Value) (us ws its : List Value), us.length = n → ws.length = ks.length → its.length = dvs.length →
      ∃ k, bindArgs (PySem.W.fnOf x qual params body scope (.ref T) kV doc pm an cdv ct) ⟨us, ks.zip ws⟩ = seqItems? (.ref T) >>= k ∧ k (some its.toArray) = pure (ps.zip (g (us ++ ws) its))) :
    Fc P w K mg base k f ks (fun vs H Q E => vs.length = n + ks.length ∧ sp (g vs dvs) H Q E) := by
  obtain ⟨oc, od, dV, kV, doc, pm, an, cdv, ct, osl, rfl, lk, hcd, hD, hK⟩ := D.ex
  rcases hD with ⟨e, _⟩ | ⟨_, T, o, its, m, rfl, lT, oT, rT⟩
  · exact absurd e hd
  · intro A outer s H us ws vs Q E hr e0 r hl hsp
    have KX : K.In s.heap := e0.mod.kin.keeps fun b o e => (e0.bs b o e).1
    have l1 : its.length = dvs.length := rT.length.symm
    have l2 : us.length = n := by
      have e := r.length
      rw [hsp.1, List.length_append, hl] at e
      omega
    obtain ⟨k, e1, e2⟩ := h T kV doc pm an cdv ct us ws its l2 hl l1
    refine F.run A outer s H ⟨us, ks.zip ws⟩ (g (us ++ ws) its) (g vs dvs) Q E hr e0 (BindsTo.of_looks fun M => ?_) (hrel r rT) hsp.2
    rw [e1]
    exact looks_items KX lT oT (.of_pure e2)
/-- all parameters given, some by name, no defaults -/
theorem Fb.names (D : FunD K x qual params body scope [] kws f fd) (F : Fb P w K mg base k f fd ps sp) (n : Nat) (ks : List Str) (g : {α : Type} → List α → List α)
    (hrel : ∀ {vs : List V} {us : List Value}, Vals vs us → Vals (g vs) (g us))
    (h : ∀ (kV doc pm : Value) (an : Option Addr) (cdv ct : Value) (us ws : List Value), us.length = n → ws.length = ks.length →
      bindArgs (PySem.W.fnOf x qual params body scope .none kV doc pm an cdv ct) ⟨us, ks.zip ws⟩ = pure (ps.zip (g (us ++ ws)))) :
    Fc P w K mg base k f ks (fun vs H Q E => vs.length = n + ks.length ∧ sp (g vs) H Q E) := by
  obtain ⟨oc, od, dV, kV, doc, pm, an, cdv, ct, osl, rfl, lk, hcd, hD, hK⟩ := D.ex
  rcases hD with ⟨_, rfl⟩ | ⟨e, _⟩
  · intro A outer s H us ws vs Q E hr e0 r hl hsp
    have l2 : us.length = n := by
      have e := r.length
      rw [hsp.1, List.length_append, hl] at e
      omega
    exact F.run A outer s H ⟨us, ks.zip ws⟩ (g (us ++ ws)) (g vs) Q E hr e0 (.of_eq (h kV doc pm an cdv ct us ws l2 hl)) (hrel r) hsp.2
  · exact absurd rfl e
end
/-! ### calls -/
def tFc (sp : Sp) (W : WX) (t : TA) : TE := fun σ H Q => t σ H fun vs H1 => sp vs H1 Q (WE W σ)
def tFk (sp : Sp) (W : WX) (t tk : TA) : TE := fun σ H Q => t σ H fun vs H1 => tk σ H1 fun zs H2 => zs.length = zs.length ∧ sp (vs ++ zs) H2 Q (WE W σ)
section
variable {X : Cx} {k : Nat} {f C : Addr} {ks : List Str} {sp : Sp} {W : WX} {x m : Str} {p pos apos : Pos} {e o : Expr} {es : List Expr} {kws : List Keyword} {ta : TE} {t tk : TA}
theorem run_fc {pins : List (Addr × Obj)} {σ : L2.St} {H : Hp} {s : Shared} {Q : VK} {us ws : List Value} {vs : List V} (F : Fc X.prog X.w X.K X.mg X.base k f ks sp) (hr : Rm k X.A) (hx : Takes X W)
    (I : Inv X pins σ H s) (r : Vals vs (us ++ ws)) (hl : ws.length = ks.length) (h : sp vs H Q (WE W σ)) : wpAny (model X.prog X.w) X.A (call (.ref f) us (ks.zip ws)) (EP X pins σ Q) X.xe s := by
  refine wpAny_call (codeAny_mono (F X.A X.stack s H us ws vs Q (WE W σ) hr I.env0 r hl h) fun r s' hq => ?_)
  cases r with
  | error e => exact passAt hx σ pins H s e s' I hq
  | ok fl =>
    cases fl with
    | ret u => exact I.after hq
    | next => exact False.elim hq
    | brk => exact False.elim hq
    | cont => exact False.elim hq
/-- f(e, ..) -/
theorem c_call (F : Fc X.prog X.w X.K X.mg X.base k f [] sp) (hr : Rm k X.A) (hm : X.mg x = some (.ref f)) (hk : PySem.W.keepIn X.K (.ref f) = true) (hx : Takes X W)
    (ha : PA X (e :: es) t) (hg : Gl X x := by rfl) (hdb : (x == ("__debug__" : Str)) = false := by decide) (he : starEach (e :: es) X.env = (false, eval e X.env) :: starEach es X.env := by rfl) (hpl : (backTo pos (starEach es X.env)).any (·.1) = false := by rfl) :
    PE X (.Call (.Name x p) (e :: es) [] pos) (tFc sp W t) := by
  refine ⟨fun pins s σ H Q I h => ?_⟩
  refine wpAny_Call_Name_kw (ld_glob I hg hm ?_ hdb)
  refine PySem.W.callWith_K (h₀ := X.base) I.ok.mod.kin hk (thn (ha.run pos pins s σ H _ I h) fun us s1 ⟨vs, H1, I1, r, q⟩ => ⟨I1.kIn, ?_⟩) he hpl
  exact run_fc (ws := []) F hr hx I1 (by rw [List.append_nil]; exact r) rfl q
/-- f() -/
theorem c_call0 (F : Fc X.prog X.w X.K X.mg X.base k f [] sp) (hr : Rm k X.A) (hm : X.mg x = some (.ref f)) (hk : PySem.W.keepIn X.K (.ref f) = true) (hx : Takes X W)
    (hg : Gl X x := by rfl) (hdb : (x == ("__debug__" : Str)) = false := by decide) : PE X (.Call (.Name x p) [] [] pos) (tFc sp W tNil) := by
  refine ⟨fun pins s σ H Q I h => ?_⟩
  refine wpAny_Call_Name_kw (ld_glob I hg hm ?_ hdb)
  exact PySem.W.callWith_K0 I.kIn hk (run_fc (us := []) (ws := []) F hr hx I .nil rfl h)
/-- f(e, .., k = v, ..) -/
theorem c_callK (F : Fc X.prog X.w X.K X.mg X.base k f ks sp) (hr : Rm k X.A) (hm : X.mg x = some (.ref f)) (hk : PySem.W.keepIn X.K (.ref f) = true) (hx : Takes X W)
    (ha : PA X (e :: es) t) (hkw : PK X kws tk) (hg : Gl X x := by rfl) (hall : (backToKw pos (keywordEach kws X.env)).all (·.1.isSome) = true := by rfl) (hks : (backToKw pos (keywordEach kws X.env)).filterMap (·.1) = ks := by rfl)
    (hdb : (x == ("__debug__" : Str)) = false := by decide) (he : starEach (e :: es) X.env = (false, eval e X.env) :: starEach es X.env := by rfl)
    (hpl : ((backTo pos (starEach (e :: es) X.env)).any (·.1) || (backToKw pos (keywordEach kws X.env)).any (·.1.isNone)) = false := by rfl) :
    PE X (.Call (.Name x p) (e :: es) kws pos) (fun σ H Q => t σ H fun vs H1 => tk σ H1 fun zs H2 => zs.length = ks.length ∧ sp (vs ++ zs) H2 Q (WE W σ)) := by
  refine ⟨fun pins s σ H Q I h => ?_⟩
  refine wpAny_Call_Name_kw (ld_glob I hg hm ?_ hdb)
  refine PySem.W.callWith_KW (h₀ := X.base) I.ok.mod.kin hk hall (thn (ha.run pos pins s σ H _ I h) fun us s1 ⟨vs, H1, I1, r, q⟩ => ?_) hpl he
  refine thn (hkw.run pos pins s1 σ H1 _ I1 q) fun ws s2 ⟨zs, H2, I2, rz, l2, q2⟩ => ⟨I2.kIn, ?_⟩
  rw [hks]
  exact run_fc F hr hx I2 (r.append rz) (rz.length.symm.trans l2) q2
/-- f(k = v, ..) -/
theorem c_callK0 (F : Fc X.prog X.w X.K X.mg X.base k f ks sp) (hr : Rm k X.A) (hm : X.mg x = some (.ref f)) (hk : PySem.W.keepIn X.K (.ref f) = true) (hx : Takes X W)
    (hkw : PK X kws tk) (hg : Gl X x := by rfl) (hall : (backToKw pos (keywordEach kws X.env)).all (·.1.isSome) = true := by rfl) (hks : (backToKw pos (keywordEach kws X.env)).filterMap (·.1) = ks := by rfl)
    (hdb : (x == ("__debug__" : Str)) = false := by decide)
    (hpl : ((backTo pos (starEach [] X.env)).any (·.1) || (backToKw pos (keywordEach kws X.env)).any (·.1.isNone)) = false := by rfl) :
    PE X (.Call (.Name x p) [] kws pos) (fun σ H Q => tk σ H fun zs H2 => zs.length = ks.length ∧ sp zs H2 Q (WE W σ)) := by
  refine ⟨fun pins s σ H Q I h => ?_⟩
  refine wpAny_Call_Name_kw (ld_glob I hg hm ?_ hdb)
  refine PySem.W.callWith_KW0 (h₀ := X.base) I.ok.mod.kin hk hall ?_ hpl
  refine thn (hkw.run pos pins s σ H _ I h) fun ws s2 ⟨zs, H2, I2, rz, l2, q2⟩ => ⟨I2.kIn, ?_⟩
  rw [hks]
  exact run_fc (us := []) F hr hx I2 rz (rz.length.symm.trans l2) q2
end
/-! ### repr of data -/
@[irreducible] def rRepr (K : PySem.W.Frag) : List V → Hp → VK → Prop := fun xs H Q => ∃ (a : Addr) (d : PyData), xs = [.ref a] ∧ Dp K H (.ref a) d ∧ d.hasDict = false ∧ d.showable = true ∧ d.depth ≤ 60 ∧ d.shown.length ≤ sizeLine ∧ Q (.str d.shown) H
theorem call_repr {X : Cx} {k : Nat} (hr : Rm k X.A) : CallR X (.builtin "repr") (rRepr X.K) := by
  intro pins s σ H xs us Q I r h
  unfold rRepr at h
  obtain ⟨a, d, rfl, hd, hnd, hs, hdp, hsz, q⟩ := h
  cases r with
  | cons r1 r2 =>
    cases r2
    obtain ⟨as, rd⟩ := Dp.reads I d (.ref a) _ hd r1
    obtain rfl : _ = Value.ref a := r1
    refine repr_of_reads' rd hs (PyData.noDict_hsm hnd) hr.gd (by have := hr.rm.un; omega) (fun _ _ e => e) (fun h' u tk hk => ?_) hsz
    exact ⟨.str d.shown, H, I.kept hk, ⟨u, rfl⟩, q⟩
/-! ### the law's end -/
theorem rm_caller : Rm 40 callerA := ⟨⟨rfl, by decide, by decide⟩, rfl⟩
section
variable {P : Program} {w : World} {K : PySem.W.Frag} {mg mb : Str → Option Value} {k : Nat} {fa a : Addr} {fd : FuncData} {x : Str} {sp : Sp} {s₁ : Shared} {vs : List Value} {ns : List Int}
/-- the law's call over one abstract heap, in which at most the script is tracked -/
theorem law_core (H : Hp) (KX : K.In s₁.heap) (hns : s₁.heap.Ns mainGlobals mg) (hb : s₁.heap.Ns builtinsNs mb) (hbb : ∀ x : Str, x ≠ "__name__" → mb x = bootBuiltins x) (hlim : s₁.heap.NoLimit) (hg : s₁.gens = #[])
    (ha : s₁.heap.get? a = some { cls := .type "list", data := .seq vs.toArray }) (hr : Rm k callerA)
    (F : ∀ base : Heap, K.In base → base.Ns mainGlobals mg → Fb P w K mg base k fa fd [x] sp) (hbind : ∀ (s : Shared) (u : Value), BindsTo s fd ⟨[u], []⟩ [(x, u)])
    (hO : Only H) (hsp : sp [.ref a] H (fun v _ => v = .bl true) fun _ _ _ => False) (hok : HOk P w H s₁.heap) (hA : ∀ b, H b ≠ none → b = a) (hK : H a ≠ none → K.lookup a = none) :
    codeAny (model P w) callerA (.call (.ref fa) ⟨[.ref a], []⟩) (fun r s' => r = .ok (.ret (.bool true)) ∧ OldK s₁.heap s'.heap ∧ s'.os = s₁.os ∧ AllBare s'.gens) s₁ := by
  have isA : ∀ {b : Addr} {u : HO}, H b = some u → b = a := fun {b u} q => hA b (fun z => nomatch (q.symm.trans z))
  have free : ∀ {b : Addr} {o : Obj} {es : Array DictEntry} {ep : Nat}, s₁.heap.get? b = some o → o.data = .dict es ep → H b = none := fun {b o es ep} e d => by
    cases q : H b with
    | none => rfl
    | some u =>
      have eb := isA q
      subst eb
      rw [ha] at e
      cases e
      cases (show Data.seq vs.toArray _ = Data.dict es ep from d)
  have nsK : ∀ {b : Addr} {m : Str → Option Value}, s₁.heap.Ns b m → (hidT s₁.heap H).Ns b m := fun {b m} ⟨o, es, ep, e, d, r⟩ => ⟨o, es, ep, hidT_get e (free e d), d, r⟩
  have inK : K.In (hidT s₁.heap H) := fun b o e => hidT_get (KX b o e) (by
    cases q : H b with
    | none => rfl
    | some u =>
      have eb := isA q
      subst eb
      rw [hK (fun z => nomatch (q.symm.trans z))] at e
      cases e)
  have hM : Mod K mg (hidT s₁.heap H) := ⟨inK, nsK hns, ⟨mb, nsK hb, hbb⟩, let ⟨mc, h1, h2⟩ := hlim; ⟨mc, nsK h1, h2⟩⟩
  have e0 : Env0 P w K mg (hidT s₁.heap H) callerA [] s₁ H := ⟨rfl, hM, fun b o e => of_hidT e, Nat.le_of_eq (hidT_size _ _), trivial, (fun b z => nomatch (show b ∈ ([] : List Addr) from z)), hok, .of_eq hg⟩
  refine codeAny_mono ((F _ inK (nsK hns)).run callerA [] s₁ H ⟨[.ref a], []⟩ [.ref a] [.ref a] _ _ hr e0 (hbind s₁ (.ref a)) (.cons rfl .nil) hsp) fun r s' h => ?_
  cases r with
  | error e =>
    obtain ⟨_, _, _, _, _, _, _, _, _, _, _, _, z⟩ := h
    exact z.elim
  | ok fl =>
    cases fl with
    | next => exact h.elim
    | brk => exact h.elim
    | cont => exact h.elim
    | ret u =>
      obtain ⟨v, H', os, bare, un, hok2, rv, rfl⟩ := h
      obtain rfl : u = Value.bool true := rv
      refine ⟨rfl, OldK.of_keep fun b o e => ?_, os, bare⟩
      cases q : H b with
      | none => exact un.keep b o e q (fun z => nomatch (show b ∈ ([] : List Addr) from z)) (fun z => nomatch z)
      | some u =>
        rcases hO b with z | ⟨ob, xs, z⟩
        · exact nomatch (q.symm.trans z)
        · have e1 := (hok b _ z).1
          have e2 := (hok2 b _ (un.frzs b ob _ z)).1
          rw [e] at e1
          cases e1
          exact e2
theorem law_end (KX : K.In s₁.heap) (hns : s₁.heap.Ns mainGlobals mg) (hb : s₁.heap.Ns builtinsNs mb) (hbb : ∀ x : Str, x ≠ "__name__" → mb x = bootBuiltins x) (hlim : s₁.heap.NoLimit) (hg : s₁.gens = #[])
    (ha : s₁.heap.get? a = some { cls := .type "list", data := .seq vs.toArray }) (hi : IntsAre vs ns) (hl : ns.length ≤ sizeLine) (hr : Rm k callerA)
    (F : ∀ base : Heap, K.In base → base.Ns mainGlobals mg → Fb P w K mg base k fa fd [x] sp) (hbind : ∀ (s : Shared) (u : Value), BindsTo s fd ⟨[u], []⟩ [(x, u)])
    (hsp : ∀ H : Hp, SqL K H a (ns.map V.int) → sp [.ref a] H (fun v _ => v = .bl true) fun _ _ _ => False) :
    codeAny (model P w) callerA (.call (.ref fa) ⟨[.ref a], []⟩) (fun r s' => r = .ok (.ret (.bool true)) ∧ OldK s₁.heap s'.heap ∧ s'.os = s₁.os ∧ AllBare s'.gens) s₁ := by
  have rv := vals_ints hi
  cases hk : K.lookup a with
  | some o =>
    have e := KX a o hk
    rw [ha] at e
    cases e
    have sq : SqL K (fun _ => none) a (ns.map V.int) := .inr ⟨_, vs.toArray, _, hk, rfl, rfl, rfl, by rw [List.size_toArray, hi.length]; exact hl, by simpa using rv⟩
    exact law_core (fun _ => none) KX hns hb hbb hlim hg ha hr F hbind (fun _ => .inl rfl) (hsp _ sq) (fun b u z => nomatch (show (none : Option HO) = some u from z)) (fun b z => absurd rfl z) fun z => absurd rfl z
  | none =>
    have h1 : ∀ b, b ≠ a → (upd (fun _ => none) a (.frz { cls := .type "list", data := .seq vs.toArray } (.lst (ns.map V.int)))) b = none := fun b n => upd_ne n
    refine law_core (upd (fun _ => none) a (.frz { cls := .type "list", data := .seq vs.toArray } (.lst (ns.map V.int)))) KX hns hb hbb hlim hg ha hr F hbind (fun b => ?_) (hsp _ (.inl (.inr ⟨_, upd_same⟩))) (fun b u z => ?_) (fun b z => ?_) fun _ => hk
    · by_cases n : b = a
      · subst n
        exact .inr ⟨_, _, upd_same⟩
      · exact .inl (h1 b n)
    · by_cases n : b = a
      · subst n
        rw [upd_same] at z
        cases z
        exact ⟨ha, by rw [List.length_map]; exact hl, vs, _, rv, ha⟩
      · rw [h1 b n] at z
        cases z
    · by_cases n : b = a
      · exact n
      · exact absurd (h1 b n) z
end
theorem walk_end {l : PySem.W.OpenLaw} {n k : Nat} {q : Program} {loose : List Str} {XP : (Str → Option Value) → Heap → Prop} {YP : World → Heap → Prop} {d : DefRec} {x : Str}
    (hn : l.most = some n) (hn2 : n ≤ sizeLine) (hdf : d.params.defaults = []) (hr : Rm k callerA)
    (F : ∀ (w : World) (mg : Str → Option Value) (fa : Addr) (h : Heap), YP w h → h.Ns mainGlobals mg → mg d.name = some (.ref fa) →
      ∃ (K : PySem.W.Frag) (fd : FuncData) (sp : Sp), K.In h ∧ (∀ (s : Shared) (u : Value), BindsTo s fd ⟨[u], []⟩ [(x, u)]) ∧
        (∀ (H : Hp) (a : Addr) (ns : List Int), ns.length ≤ n → SqL K H a (ns.map V.int) → sp [.ref a] H (fun v _ => v = .bl true) fun _ _ _ => False) ∧
        ∀ base : Heap, K.In base → base.Ns mainGlobals mg → Fb l.prog w K mg base k fa fd [x] sp) :
    PySem.W.WalkO q loose XP YP l.row.toRowW d [] (fun f vs => PySem.call f vs) := by
  refine Att.attach_call hn hdf fun w s₀ s₁ mg mb fa o pm cd doc a vs ns G Y ho hd hcd hmg hobj hints hlen hg => ?_
  obtain ⟨K, fd, sp, KX, hb, hsp, hF⟩ := F w mg fa _ Y G.T.g hmg
  exact law_end KX G.T.g G.T.b G.T.builtins G.T.nolimit hg hobj hints (Nat.le_trans hlen hn2) hr hF hb (fun H hS => hsp H a ns hlen hS)
end L3
set_option Elab.async false
set_option linter.all false
set_option maxRecDepth 100000
set_option maxHeartbeats 4000000
namespace L3
open PySem PySem.Spec PyProof.Rows L2
/-! ### the head's facts: any Bools of the written part, and the defs -/
abbrev Fx := PySem.W.Frag → Bool
def obsX (xf : List Fx) (fn : List He.DefD) (K : PySem.W.Frag) : He.AlD := ((xf.all fun p => p K) && fn.all fun d => d.ok K, fn.map fun d => He.fnW K d.at_)
def SaysX (xf : List Fx) (fn : List He.DefD) (K : PySem.W.Frag) : Prop := obsX xf fn K = He.valD fn
def obsXG (n : Nat) (xf : List Fx) (fn : List He.DefD) (g : Addr → Option Obj) : He.AlD := obsX xf fn (He.frG g (sysModules :: He.asD g n))
def hookX (n : Nat) (xf : List Fx) (fn : List He.DefD) : PySem.W.Hook where
  α := He.AlD
  obs := fun s => obsXG n xf fn s.heap.get?
  val := fun _ => He.valD fn
  says := fun _ h => ∃ K : PySem.W.Frag, K.In h ∧ SaysX xf fn K
  of := fun _ _ e => ⟨_, He.frG_in, e⟩
  keeps := fun _ _ _ ⟨K, hK, c⟩ k => ⟨K, PySem.W.Frag.In.keeps hK k, c⟩
theorem obsXG_eq {n : Nat} {xf : List Fx} {fn : List He.DefD} {g : Addr → Option Obj} {s : Shared} (h : ∀ a, g a = s.heap.get? a) : obsXG n xf fn g = (hookX n xf fn).obs s := by
  have e : g = s.heap.get? := funext h
  rw [e] <;> rfl
section
variable {xf : List Fx} {fn : List He.DefD} {K : PySem.W.Frag}
theorem SaysX.fact (c : SaysX xf fn K) (i : Nat) {f : Fx} (h : xf[i]? = some f := by rfl) : f K = true := by
  have c1 := (He.ba (show ((xf.all fun f => f K) && fn.all fun d => d.ok K) = true from congrArg (fun z : He.AlD => z.1) c)).1
  exact List.all_eq_true.mp c1 f (List.mem_of_getElem? h)
theorem SaysX.def_ (c : SaysX xf fn K) (i : Nat) {d : He.DefD} (h : fn[i]? = some d := by rfl) : ∃ fd, FunD K d.name d.qual d.params d.body d.scope (d.dvs K) (d.kws K) (He.fAd K d.at_) fd := by
  have c2 := (He.ba (show ((xf.all fun f => f K) && fn.all fun d => d.ok K) = true from congrArg (fun z : He.AlD => z.1) c)).2
  have e : fn.map (fun d => He.fnW K d.at_) = fn.map He.DefD.val := congrArg (fun z : He.AlD => z.2) c
  have e2 : (fn.map fun d => He.fnW K d.at_)[i]? = (fn.map He.DefD.val)[i]? := by rw [e]
  rw [List.getElem?_map, List.getElem?_map, h] at e2
  exact He.DefD.funD (Option.some.inj e2) (List.all_eq_true.mp c2 d (List.mem_of_getElem? h))
end
/-! ### an own exception class without __init__ -/
structure Exo (K : PySem.W.Frag) (C : Addr) (bmB : List Value) (newId : String) : Prop where
  x : PySem.W.excIn K C bmB newId = true
  kp : PySem.W.keepIn K (.ref C) = true
  sub : PySem.W.subIn K (.ref C) (.type "BaseException") = some true
  ty : PySem.W.typeIn K (.ref C) = some (.type "type")
abbrev bmV : List Value := [.type "ValueError", .type "Exception", .type "BaseException", .type "object"]
abbrev bmL : List Value := [.type "LookupError", .type "Exception", .type "BaseException", .type "object"]
abbrev bmR : List Value := [.type "RuntimeError", .type "Exception", .type "BaseException", .type "object"]
def exoB (bmB : List Value) (newId : String) (x : Str) : Fx := fun K => PySem.W.excIn K (He.ga K x) bmB newId && (PySem.W.keepIn K (.ref (He.ga K x)) && (decide (PySem.W.subIn K (.ref (He.ga K x)) (.type "BaseException") = some true) && decide (PySem.W.typeIn K (.ref (He.ga K x)) = some (.type "type"))))
theorem exo_of {bmB : List Value} {newId : String} {x : Str} {K : PySem.W.Frag} (h : exoB bmB newId x K = true) : Exo K (He.ga K x) bmB newId := by
  obtain ⟨h1, h⟩ := He.ba h
  obtain ⟨h2, h⟩ := He.ba h
  obtain ⟨h3, h4⟩ := He.ba h
  exact ⟨h1, h2, of_decide_eq_true h3, of_decide_eq_true h4⟩
section
variable {K : PySem.W.Frag} {h : Heap} {mg : Str → Option Value}
theorem gint_of (X : K.In h) (G : h.Ns mainGlobals mg) {x : Str} {i : Int} (c : (He.Fa.int x i).ok K = true) : ∃ u, mg x = some u ∧ RelV (.int i) u := by
  obtain ⟨t, e⟩ := He.int_ok X G c
  exact ⟨_, e, ⟨t, rfl⟩⟩
theorem gstr_of (X : K.In h) (G : h.Ns mainGlobals mg) {x z : Str} (c : (He.Fa.str x z).ok K = true) : ∃ u, mg x = some u ∧ RelV (.str z) u := by
  obtain ⟨t, e⟩ := He.str_ok X G c
  exact ⟨_, e, ⟨t, rfl⟩⟩
end
/-- a module's constant -/
theorem pe_k {X : Cx} {x : Str} {v : V} {pos : Pos} (h : ∃ u, X.mg x = some u ∧ RelV v u) (hg : Gl X x := by rfl) (hdb : (x == ("__debug__" : Str)) = false := by decide) : PE X (.Name x pos) (tC v) := by
  obtain ⟨u, e, r⟩ := h
  exact pe_glob hg e r hdb
end L3
set_option Elab.async false
set_option linter.all false
set_option maxRecDepth 100000
set_option maxHeartbeats 4000000
namespace L3
open PySem PySem.Spec PyProof.Rows L2
/-! ### heaps that grow -/
abbrev Ex (H H' : Hp) : Prop := Same H H'
theorem ex_new {H : Hp} {p : Addr} {o : HO} (h : H p = none) : Ex H (upd H p o) := fun a u e => by
  rw [upd_ne (ne_of_none e h)]
  exact e
/-- an object that H does not know may change -/
theorem ex_mut {H H' : Hp} {p : Addr} {o : HO} (e : Ex H H') (h : H p = none) : Ex H (upd H' p o) := fun a u ha => by
  rw [upd_ne (ne_of_none ha h)]
  exact e a u ha
theorem ex_sql {K : PySem.W.Frag} {H H' : Hp} {a : Addr} {xs : List V} (e : Ex H H') (h : SqL K H a xs) : SqL K H' a xs := Same.seq e h
theorem ex_sqt {K : PySem.W.Frag} {H H' : Hp} {a : Addr} {xs : List V} (e : Ex H H') (h : SqT K H a xs) : SqT K H' a xs := by
  rcases h with (h | ⟨o, h⟩) | h
  · exact .inl (.inl (e _ _ h))
  · exact .inl (.inr ⟨o, e _ _ h⟩)
  · exact .inr h
theorem ex_fresh {H H' : Hp} {p : Addr} (e : Ex H H') (h : H' p = none) : H p = none := Same.free e h
theorem sq_lst {K : PySem.W.Frag} {H : Hp} {a : Addr} {xs : List V} (h : H a = some (.lst xs)) : SqL K H a xs := .inl (.inl h)
theorem sq_tup {K : PySem.W.Frag} {H : Hp} {a : Addr} {xs : List V} (h : H a = some (.tup xs)) : SqT K H a xs := .inl (.inl h)
/-! ### whole numbers, moments -/
/-- a value of a known type -/
def isW : V → Bool
  | .int _ => true
  | _ => false
def isM : V → Bool
  | .int i => decide (0 ≤ i)
  | _ => false
def isB (n : Int) : V → Bool
  | .int i => decide (0 ≤ i) && decide (i < n)
  | _ => false
def Cl (K : PySem.W.Frag) (H : Hp) (x : V) : Prop := ∃ t b c, TyX K H x t ∧ PySem.W.kitOne K t (.type "int") = some b ∧ PySem.W.kitOne K t (.type "bool") = some c ∧ isW x = (b && !c)
section
variable {K : PySem.W.Frag} {H : Hp}
theorem cl_int (i : Int) : Cl K H (.int i) := ⟨_, true, false, .base (.int i), kit_ty (by decide +kernel), kit_ty (by decide +kernel), rfl⟩
theorem cl_bl (b : Bool) : Cl K H (.bl b) := ⟨_, true, true, .base (.bl b), kit_ty (by decide +kernel), kit_ty (by decide +kernel), rfl⟩
theorem cl_non : Cl K H .non := ⟨_, false, false, .base .non, kit_ty (by decide +kernel), kit_ty (by decide +kernel), rfl⟩
theorem cl_str (z : Str) : Cl K H (.str z) := ⟨_, false, false, .base (.str z), kit_ty (by decide +kernel), kit_ty (by decide +kernel), rfl⟩
theorem kit_list : PySem.W.kitOne K (.type "list") (.type "int") = some false ∧ PySem.W.kitOne K (.type "list") (.type "bool") = some false := ⟨kit_ty (by decide +kernel), kit_ty (by decide +kernel)⟩
theorem kit_tuple : PySem.W.kitOne K (.type "tuple") (.type "int") = some false ∧ PySem.W.kitOne K (.type "tuple") (.type "bool") = some false := ⟨kit_ty (by decide +kernel), kit_ty (by decide +kernel)⟩
theorem kit_dict : PySem.W.kitOne K (.type "dict") (.type "int") = some false ∧ PySem.W.kitOne K (.type "dict") (.type "bool") = some false := ⟨kit_ty (by decide +kernel), kit_ty (by decide +kernel)⟩
theorem cl_lst {a : Addr} {xs : List V} (e : H a = some (.lst xs)) : Cl K H (.ref a) := ⟨_, false, false, .base (.lst e), kit_list.1, kit_list.2, rfl⟩
theorem cl_tup {a : Addr} {xs : List V} (e : H a = some (.tup xs)) : Cl K H (.ref a) := ⟨_, false, false, .base (.tup e), kit_tuple.1, kit_tuple.2, rfl⟩
theorem cl_dK {a : Addr} {kvs : List (Key × V)} (e : H a = some (.dK kvs)) : Cl K H (.ref a) := ⟨_, false, false, .base (.dK e), kit_dict.1, kit_dict.2, rfl⟩
end
theorem isM_w {x : V} (h : isM x = true) : ∃ i, x = .int i ∧ 0 ≤ i := by
  cases x with
  | int i => exact ⟨i, rfl, of_decide_eq_true h⟩
  | _ => cases h
theorem isW_w {x : V} (h : isW x = true) : ∃ i, x = .int i := by
  cases x with
  | int i => exact ⟨i, rfl⟩
  | _ => cases h
theorem isM_f {x : V} (h : isW x = false) : isM x = false := by
  cases x with
  | int i => cases h
  | _ => rfl
/-- given values and defaults in the parameters' order -/
def pick {α : Type} (ix : List (Sum Nat Nat)) (us its : List α) : List α := ix.filterMap fun j => match j with
  | .inl i => us[i]?
  | .inr i => its[i]?
theorem pick_vals {vs ds : List V} {us its : List Value} (ix : List (Sum Nat Nat)) (r1 : Vals vs us) (r2 : Vals ds its) : Vals (pick ix vs ds) (pick ix us its) := by
  have one : ∀ {vs : List V} {us : List Value} (i : Nat), Vals vs us → (∃ v u, vs[i]? = some v ∧ us[i]? = some u ∧ RelV v u) ∨ (vs[i]? = none ∧ us[i]? = none) := fun {vs us} i r => by
    cases e : vs[i]? with
    | none => exact .inr ⟨rfl, r.none_of e⟩
    | some v =>
      obtain ⟨u, h1, h2⟩ := r.get e
      exact .inl ⟨v, u, rfl, h1, h2⟩
  induction ix with
  | nil => exact .nil
  | cons j ix ih =>
    unfold pick at ih ⊢
    cases j with
    | inl i =>
      rcases one i r1 with ⟨v, u, h1, h2, h3⟩ | ⟨h1, h2⟩
      · simp only [List.filterMap_cons, h1, h2]
        exact .cons h3 ih
      · simp only [List.filterMap_cons, h1, h2]
        exact ih
    | inr i =>
      rcases one i r2 with ⟨v, u, h1, h2, h3⟩ | ⟨h1, h2⟩
      · simp only [List.filterMap_cons, h1, h2]
        exact .cons h3 ih
      · simp only [List.filterMap_cons, h1, h2]
        exact ih
end L3
namespace L3
open PySem PySem.Spec PyProof.Rows L2
/-! ### texts of data -/
theorem log_of {n : Nat} (h : n < 10 ^ 200) : n.log2 < 1920 := PySem.Flt.log2_lt_of (by decide) (Nat.lt_trans h (by decide +kernel))
/-- data that repr shows, without dicts: whole numbers of at most 500 figures, texts of any signs -/
def okI (i : Int) : Bool := decide (i.natAbs < 10 ^ 200)
def okT (x : Str) : Bool := x.cps.toList.all fun c => decide (c < 16 ^ 8)
mutual
def okD : PyData → Bool
  | .none => true
  | .bool _ => true
  | .int i => okI i
  | .str x => okT x
  | .list xs => okL xs
  | .tuple xs => okL xs
  | .dict _ => false
def okL : List PyData → Bool
  | [] => true
  | x :: xs => okD x && okL xs
end
mutual
def szD : PyData → Nat
  | .none => 4
  | .bool _ => 5
  | .int _ => 1921
  | .str x => 10 * x.length + 2
  | .list xs => szL xs + 3
  | .tuple xs => szL xs + 3
  | .dict _ => 0
def szL : List PyData → Nat
  | [] => 0
  | x :: xs => szD x + 2 + szL xs
end
mutual
theorem okD_tells : ∀ d : PyData, okD d = true → d.hasDict = false ∧ d.showable = true ∧ d.shown.length ≤ szD d
  | .none, _ => ⟨rfl, rfl, Nat.le_refl _⟩
  | .bool b, _ => ⟨rfl, rfl, by cases b <;> decide⟩
  | .int i, h => by
    have h1 : i.natAbs < 10 ^ 200 := of_decide_eq_true (show decide (i.natAbs < 10 ^ 200) = true from h)
    exact ⟨rfl, decide_eq_true (log_of h1), int_text_len_1921 (log_of h1)⟩
  | .str x, h => by
    have h1 : ∀ c ∈ x.cps.toList, c < 16 ^ 8 := fun c hc => of_decide_eq_true (List.all_eq_true.mp h c hc)
    exact ⟨rfl, rfl, StrLaws.reprText_len x h1⟩
  | .list xs, h => by
    obtain ⟨h1, h2, h3⟩ := okL_tells xs h
    refine ⟨h1, h2, Nat.le_trans (listText_len_le (PyData.shownAll xs)) ?_⟩
    have e := PyData.shownAll_length xs
    show _ ≤ szL xs + 3
    omega
  | .tuple xs, h => by
    obtain ⟨h1, h2, h3⟩ := okL_tells xs h
    refine ⟨h1, h2, Nat.le_trans (tupleText_len_le (PyData.shownAll xs)) ?_⟩
    have e := PyData.shownAll_length xs
    show _ ≤ szL xs + 3
    omega
  | .dict _, h => by cases h
theorem okL_tells : ∀ xs : List PyData, okL xs = true → PyData.hasDictAll xs = false ∧ PyData.showableAll xs = true ∧ ((PyData.shownAll xs).map (·.length)).sum + 2 * xs.length ≤ szL xs
  | [], _ => ⟨rfl, rfl, Nat.le_refl _⟩
  | x :: xs, h => by
    obtain ⟨g1, g2⟩ := He.ba (show (okD x && okL xs) = true from h)
    obtain ⟨h1, h2, h3⟩ := okD_tells x g1
    obtain ⟨k1, k2, k3⟩ := okL_tells xs g2
    refine ⟨?_, ?_, ?_⟩
    · show (x.hasDict || PyData.hasDictAll xs) = false
      rw [h1, k1]
      rfl
    · show (x.showable && PyData.showableAll xs) = true
      rw [h2, k2]
      rfl
    · show (x.shown.length + ((PyData.shownAll xs).map (·.length)).sum) + 2 * (xs.length + 1) ≤ szD x + 2 + szL xs
      omega
end
/-- repr of a list, a tuple -/
theorem rr_data {K : PySem.W.Frag} {H : Hp} {a : Addr} {d : PyData} {Q : VK} (h : Dp K H (.ref a) d) (ho : okD d = true) (hz : szD d ≤ 16000000) (hd : d.depth ≤ 60) (q : Q (.str d.shown) H) : rRepr K [.ref a] H Q := by
  obtain ⟨h1, h2, h3⟩ := okD_tells d ho
  unfold rRepr
  exact ⟨a, d, rfl, h, h1, h2, hd, Nat.le_trans h3 (Nat.le_trans hz (by rw [sizeLine_eq]; decide)), q⟩
section
variable {K : PySem.W.Frag} {H : Hp} {a : Addr} {ns : List Int} {Q : VK}
theorem dpAll_ints (K : PySem.W.Frag) (H : Hp) : ∀ ns : List Int, DpAll K H (ns.map V.int) (ns.map PyData.int)
  | [] => .nil
  | n :: ns => .cons (.int n) (dpAll_ints K H ns)
theorem ints_ok : ∀ ns : List Int, (∀ n ∈ ns, okI n = true) → okL (ns.map PyData.int) = true
  | [], _ => rfl
  | n :: ns, h => by
    show (okI n && okL (ns.map PyData.int)) = true
    rw [ints_ok ns fun m hm => h m (List.mem_cons_of_mem _ hm), h n List.mem_cons_self]
    rfl
theorem ints_sz : ∀ ns : List Int, szL (ns.map PyData.int) = 1923 * ns.length
  | [] => rfl
  | n :: ns => by
    show 1921 + 2 + szL (ns.map PyData.int) = 1923 * (ns.length + 1)
    rw [ints_sz ns]
    omega
theorem ints_depth : ∀ ns : List Int, PyData.depthAll (ns.map PyData.int) = 0
  | [] => rfl
  | n :: ns => by
    show max 0 (PyData.depthAll (ns.map PyData.int)) = 0
    rw [ints_depth ns]
    rfl
/-- the text of a list of whole numbers -/
def txtI (ns : List Int) : Str := PyData.shown (.list (ns.map PyData.int))
/-- repr(xs), xs a list of whole numbers -/
theorem rr_ints (h : SqL K H a (ns.map V.int)) (hs : ∀ n ∈ ns, okI n = true) (hl : ns.length ≤ 8000) (q : Q (.str (txtI ns)) H) : rRepr K [.ref a] H Q := by
  refine rr_data (.lst h (dpAll_ints K H ns)) (ints_ok ns hs) ?_ ?_ q
  · show szL (ns.map PyData.int) + 3 ≤ 16000000
    rw [ints_sz]
    omega
  · show PyData.depthAll (ns.map PyData.int) + 1 ≤ 60
    rw [ints_depth]
    decide
theorem okI_of {i : Int} (h1 : -(10 ^ 150) < i) (h2 : i < 10 ^ 150) : okI i = true := decide_eq_true (by
  have e : (10 : Nat) ^ 150 < 10 ^ 200 := by decide +kernel
  have e2 : i.natAbs < 10 ^ 150 := by omega
  exact Nat.lt_trans e2 e)
end
end L3
namespace L3
open PySem PySem.Spec PyProof.Rows L2
/-! ### all([f(x) for x in xs]), each answer True -/
section
variable {K : PySem.W.Frag} {a : Addr} {xs : List V} {g : TG} {tt : TT} {te : TE} {vs : List Nat} {σ : L2.St} {H1 : Hp} {D : Addr} {Qd : Hp → Prop}
theorem rep_snoc (n : Nat) : (List.replicate n true).map V.bl ++ [V.bl true] = (List.replicate (n + 1) true).map V.bl := by
  rw [List.replicate_succ', List.map_append]
  rfl
theorem small_len {n : Nat} (h : n ≤ 100000) : n < sizeLine := Nat.lt_of_le_of_lt h (by rw [sizeLine_eq]; decide)
abbrev Turn (g : TG) (tt : TT) (te : TE) (vs : List Nat) (σ : L2.St) (D : Addr) (x : V) (H : Hp) (N : Hp → Prop) : Prop :=
  g x (wipe σ vs) H fun σ2 H2 => wipe σ2 vs = wipe σ vs ∧ tt σ2 H2 fun b H3 => if b = true then te σ2 H3 fun y H4 => ∃ acc, H4 D = some (.lst acc) ∧ acc.length < sizeLine ∧ N (upd H4 D (.lst (acc ++ [y]))) else N H3
theorem lc_true_tup (I : Hp → Prop) (hI : ∀ H l, I H → I (upd H D (.lst l))) (i0 : I H1) (hx : xs.length ≤ 100000) (hl : ∀ H, I H → SqT K H a xs)
    (hs : ∀ (i : Nat) (x : V) (H : Hp) (acc : List V) (N : Hp → Prop), xs[i]? = some x → I H → H D = some (.lst acc) → acc.length < sizeLine → (∀ H4, I H4 → H4 D = some (.lst acc) → N (upd H4 D (.lst (acc ++ [.bl true])))) → Turn g tt te vs σ D x H N)
    (hd : ∀ H, I H → H D = some (.lst ((List.replicate xs.length true).map V.bl)) → Qd H) :
    ∃ W : Nat → Nat → Hp → Prop, (∃ m, W 0 m (upd H1 D (.lst []))) ∧ ∀ i m H, W i m H →
      ((Itt K a).stop i H ∧ Qd H) ∨ ((Itt K a).go i H ∧ ∃ Nx : Hp → Prop, (∀ H', Nx H' → ∃ m', m' < m ∧ W (i + 1) m' H') ∧ ∀ x H', (Itt K a).yld i H x H' → Turn g tt te vs σ D x H' Nx) := by
  refine lc_tup (fun i H => I H ∧ i ≤ xs.length ∧ H D = some (.lst ((List.replicate i true).map V.bl))) ⟨hI _ _ i0, Nat.zero_le _, upd_same⟩ (fun i H _ p => hl H p.1) ?_ (fun H p => hd H p.1 p.2.2)
  rintro i x H hi ⟨p1, p2, p3⟩
  have lt : i < xs.length := (List.getElem?_eq_some_iff.mp hi).1
  refine hs i x H _ _ hi p1 p3 ?_ fun H4 i4 d4 => ⟨hI _ _ i4, lt, by rw [upd_same, rep_snoc]⟩
  rw [List.length_map, List.length_replicate]
  exact small_len (by omega)
theorem lc_true_list (I : Hp → Prop) (hI : ∀ H l, I H → I (upd H D (.lst l))) (i0 : I H1) (hx : xs.length ≤ 100000) (hl : ∀ H, I H → SqL K H a xs)
    (hs : ∀ (i : Nat) (x : V) (H : Hp) (acc : List V) (N : Hp → Prop), xs[i]? = some x → I H → H D = some (.lst acc) → acc.length < sizeLine → (∀ H4, I H4 → H4 D = some (.lst acc) → N (upd H4 D (.lst (acc ++ [.bl true])))) → Turn g tt te vs σ D x H N)
    (hd : ∀ H, I H → H D = some (.lst ((List.replicate xs.length true).map V.bl)) → Qd H) :
    ∃ W : Nat → Nat → Hp → Prop, (∃ m, W 0 m (upd H1 D (.lst []))) ∧ ∀ i m H, W i m H →
      ((Itl K a).stop i H ∧ Qd H) ∨ ((Itl K a).go i H ∧ ∃ Nx : Hp → Prop, (∀ H', Nx H' → ∃ m', m' < m ∧ W (i + 1) m' H') ∧ ∀ x H', (Itl K a).yld i H x H' → Turn g tt te vs σ D x H' Nx) := by
  refine lc_list (fun i H => I H ∧ i ≤ xs.length ∧ H D = some (.lst ((List.replicate i true).map V.bl))) ⟨hI _ _ i0, Nat.zero_le _, upd_same⟩ (fun i H _ p => hl H p.1) ?_ (fun H p => hd H p.1 p.2.2)
  rintro i x H hi ⟨p1, p2, p3⟩
  have lt : i < xs.length := (List.getElem?_eq_some_iff.mp hi).1
  refine hs i x H _ _ hi p1 p3 ?_ fun H4 i4 d4 => ⟨hI _ _ i4, lt, by rw [upd_same, rep_snoc]⟩
  rw [List.length_map, List.length_replicate]
  exact small_len (by omega)
theorem all_rep (n : Nat) : (List.replicate n true).all id = true := by
  rw [List.all_eq_true]
  intro b hb
  exact (List.eq_of_mem_replicate hb)
end
end L3
namespace L3
open PySem PySem.Spec PyProof.Rows L2
/-! ### for k in range(max(1, min(len(script), most))) -/
abbrev turns (most : Int) (n : Nat) : Int := if (if most < (n : Int) then most else (n : Int)) > (1 : Int) then (if most < (n : Int) then most else (n : Int)) else (1 : Int)
theorem turns_lo (most : Int) (n : Nat) (h : 0 < most ∧ most ≤ 63) : -(2 ^ 62) ≤ turns most n := by
  unfold turns
  split <;> split <;> omega
theorem turns_hi (most : Int) (n : Nat) (h : 0 < most ∧ most ≤ 63) : turns most n < 2 ^ 62 := by
  unfold turns
  split <;> split <;> omega
theorem turns_lt {i : Nat} (most : Int) (n : Nat) (h : 0 < most ∧ most ≤ 63) (hi : i < (turns most n).toNat) : i < 1000 := by
  unfold turns at hi
  split at hi <;> split at hi <;> omega
end L3
set_option Elab.async false
set_option linter.all false
set_option maxRecDepth 100000
set_option maxHeartbeats 4000000
namespace L3
open PySem PySem.Spec PyProof.Rows L2 TL
/-! ### a comprehension whose i-th turn tells fm i -/
section
variable {J : It} {n : Nat} {G : Hp → Prop} {Y : Nat → Hp → V → Hp → Prop} {g : TG} {tt : TT} {te : TE} {vs : List Nat} {σ : L2.St} {H1 : Hp} {D : Addr} {Qd : Hp → Prop}
theorem range_fm_succ (fm : Nat → Option V) (i : Nat) : (List.range (i + 1)).filterMap fm = match fm i with
    | some y => (List.range i).filterMap fm ++ [y]
    | none => (List.range i).filterMap fm := by
  rw [List.range_succ, List.filterMap_append]
  cases e : fm i with
  | none => simp [e]
  | some y => simp [e]
theorem fm_len (fm : Nat → Option V) (i : Nat) : ((List.range i).filterMap fm).length ≤ i := by
  have := List.length_filterMap_le fm (List.range i)
  rwa [List.length_range] at this
theorem lc_fm (w : L2.Walk J n G Y) (fm : Nat → Option V) (I : Hp → Prop) (hI : ∀ H l, I H → I (upd H D (.lst l))) (i0 : I H1) (hn : n ≤ 100000) (hG : ∀ H, I H → G H)
    (hs : ∀ (i : Nat) (x : V) (H H' : Hp) (acc : List V) (N : Hp → Prop), i < n → I H → H D = some (.lst acc) → acc.length < sizeLine → Y i H x H' →
      (∀ H4, I H4 → H4 D = some (.lst acc) → match fm i with | some y => N (upd H4 D (.lst (acc ++ [y]))) | none => N H4) → Turn g tt te vs σ D x H' N)
    (hd : ∀ H, I H → H D = some (.lst ((List.range n).filterMap fm)) → Qd H) :
    ∃ W : Nat → Nat → Hp → Prop, (∃ m, W 0 m (upd H1 D (.lst []))) ∧ ∀ i m H, W i m H →
      (J.stop i H ∧ Qd H) ∨ (J.go i H ∧ ∃ Nx : Hp → Prop, (∀ H', Nx H' → ∃ m', m' < m ∧ W (i + 1) m' H') ∧ ∀ x H', J.yld i H x H' → Turn g tt te vs σ D x H' Nx) := by
  refine L2.lc_it w (fun i H => I H ∧ i ≤ n ∧ H D = some (.lst ((List.range i).filterMap fm))) ⟨hI _ _ i0, Nat.zero_le _, upd_same⟩ (fun i H _ p => hG H p.1) ?_ (fun H p => hd H p.1 p.2.2)
  rintro i x H H' hi ⟨p1, p2, p3⟩ y
  refine hs i x H H' _ _ hi p1 p3 (small_len (Nat.le_trans (fm_len fm i) (by omega))) y fun H4 i4 d4 => ?_
  have e := range_fm_succ fm i
  cases q : fm i with
  | none =>
    rw [q] at e
    exact ⟨i4, hi, by rw [e]; exact d4⟩
  | some y =>
    rw [q] at e
    exact ⟨hI _ _ i4, hi, by rw [upd_same, e]⟩
end
theorem range_map_get {α β : Type} (l : List α) (d : α) (f : α → β) : (List.range l.length).filterMap (fun i => some (f (l.getD i d))) = l.map f := by
  apply List.ext_getElem?
  intro i
  rw [List.filterMap_eq_map' (f := fun i => f (l.getD i d))]
  rw [List.getElem?_map, List.getElem?_map]
  by_cases h : i < l.length
  · rw [List.getElem?_range h, List.getElem?_eq_getElem h]
    simp [List.getD_eq_getElem?_getD, h]
  · rw [List.getElem?_eq_none (by simpa using h), List.getElem?_eq_none (by simpa using h)]
    rfl
/-! ### rules: rpartition, text * number -/
section
variable {X : Cx} {o e : Expr} {to te : TE}
theorem mt_rpartition : MtR X "str.rpartition" (fun x xs H Q => ∃ a b, x = .str a ∧ xs = [.str b] ∧ (b.length == 0) = false ∧ a.length ≤ sizeLine ∧
    ∀ p, H p = none → Q (.ref p) (upd H p (.tup [.str (Txt.rpartition a b).1, .str (Txt.rpartition a b).2.1, .str (Txt.rpartition a b).2.2]))) := by
  intro pins s σ H x xs v us Q I rx rs h
  obtain ⟨a, b, rfl, rfl, hb, hz, h⟩ := h
  obtain ⟨t, rfl⟩ := rx
  cases rs with
  | cons r1 rs =>
    cases rs
    obtain ⟨u, rfl⟩ := r1
    refine call_meets F.slot_str_rpartition (typeIs_str _ _ _) F.entry_str_rpartition (F.args_str_rpartition_2 _ _) (meets_str_rpartition a b t u hb hz) ?_
    unfold Txt.rpartition at h
    revert h
    cases Builtin.Str.lastOccurrence a b 0 a.length with
    | none => intro h; exact laid_parts I h
    | some i => intro h; exact laid_parts I h
theorem pe_rpartition {apos pos : Pos} (ho : PE X o to) (he : PE X e te) (hs : starEach [e] X.env = [(false, eval e X.env)] := by rfl) (hbase : attributeBase o "rpartition" X.env (eval o X.env) = eval o X.env := by rfl) (hline : (apos.endLine == pos.line) = true := by rfl) :
    PE X (.Call (.Attribute o "rpartition" apos) [e] [] pos) (tM1 (fun x xs H Q => ∃ a b, x = .str a ∧ xs = [.str b] ∧ (b.length == 0) = false ∧ a.length ≤ sizeLine ∧
      ∀ p, H p = none → Q (.ref p) (upd H p (.tup [.str (Txt.rpartition a b).1, .str (Txt.rpartition a b).2.1, .str (Txt.rpartition a b).2.2]))) to te) :=
  pe_m1 F.slot_str_rpartition F.type_str_rpartition mt_rpartition ho he hs hbase hline
/-- x * n, x a text of one sign -/
theorem op_repS : OpR X (binaryOp .Mult) (fun x y H Q => ∃ (a : Str) (n : Int), x = .str a ∧ y = .int n ∧ a.length ≤ 1000 ∧ 0 ≤ n ∧ n ≤ 10000 ∧ Q (.str (Txt.mul a n)) H) := by
  intro pins s σ H x y v u Q I rx ry h
  obtain ⟨a, n, rfl, rfl, ha, h0, h1, q⟩ := h
  obtain ⟨t, rfl⟩ := rx
  obtain ⟨t', rfl⟩ := ry
  refine SB.mul ⟨?_, fun z _ => ?_, fun z _ => ?_⟩ fun t' k => ⟨.str _, H, I.tok _, ⟨_, rfl⟩, q⟩
  · rw [decide_eq_false (by omega), decide_eq_false (by omega)]
    rfl
  · have hn : 0 < n := by omega
    have h2 : (a.length : Int) * n ≤ 1000 * 10000 := Int.mul_le_mul (by omega) h1 h0 (by decide)
    have h3 : (a.length : Int) ≤ (2 ^ 63 - 1) / n := Int.le_ediv_of_mul_le hn (by omega)
    omega
  · unfold Builtin.Str.tooLong
    rw [decide_eq_false]
    have h2 : a.length * n.toNat ≤ 1000 * 10000 := Nat.mul_le_mul ha (by omega)
    rw [sizeLine_eq]
    omega
end
end L3
set_option Elab.async false
set_option linter.all false
set_option maxRecDepth 100000
set_option maxHeartbeats 4000000
/-! Texts of numbers and moments, as lists of codes; no program here. -/
namespace Mo
open PySem TL
def isFig (c : Nat) : Bool := decide (48 ≤ c) && decide (c ≤ 57)
def figs (l : List Nat) : Bool := !l.isEmpty && l.all isFig
def val (l : List Nat) : Nat := NumText.digitsVal l
def num? (l : List Nat) : Option Nat := if figs l && !(decide (1 < l.length) && l.head? == some 48) then some (val l) else none
theorem isFig_iff {c : Nat} : isFig c = true ↔ 48 ≤ c ∧ c ≤ 57 := by
  unfold isFig
  rw [Bool.and_eq_true, decide_eq_true_eq, decide_eq_true_eq]
theorem all_digits {l : List Nat} (h : l.all isFig = true) : NumText.AllDigits l := fun c hc => isFig_iff.mp (List.all_eq_true.mp h c hc)
theorem all_fig {l : List Nat} (h : NumText.AllDigits l) : l.all isFig = true := List.all_eq_true.mpr fun c hc => isFig_iff.mpr (h c hc)
theorem figs_iff {l : List Nat} : figs l = true ↔ l ≠ [] ∧ NumText.AllDigits l := by
  unfold figs
  rw [Bool.and_eq_true]
  constructor
  · rintro ⟨h1, h2⟩
    exact ⟨(by rintro rfl; cases h1), all_digits h2⟩
  · rintro ⟨h1, h2⟩
    refine ⟨?_, all_fig h2⟩
    cases l with
    | nil => exact absurd rfl h1
    | cons a r => rfl
theorem figs_num (n : Nat) : figs (numL n) = true := figs_iff.mpr ⟨numL_ne n, numL_digits n⟩
theorem numL_head : ∀ n : Nat, 1 ≤ n → (numL n).head? ≠ some 48 := by
  intro n
  induction n using Nat.strongRecOn with
  | ind n ih =>
    intro h
    by_cases hn : n < 10
    · rw [numL_lt hn]
      simp
      omega
    · rw [numL_step (by omega)]
      have z := ih (n / 10) (by omega) (by omega)
      have y := numL_ne (n / 10)
      cases e : numL (n / 10) with
      | nil => exact absurd e y
      | cons a r =>
        rw [e] at z
        simpa using z
theorem numL_one {n : Nat} (h : 1 < (numL n).length) : 10 ≤ n := by
  by_cases hn : n < 10
  · rw [numL_lt hn] at h
    simp at h
  · omega
theorem val_num (n : Nat) : val (numL n) = n := numL_val n
theorem num_num (n : Nat) : num? (numL n) = some n := by
  unfold num?
  rw [figs_num, val_num]
  have e : (decide (1 < (numL n).length) && (numL n).head? == some 48) = false := by
    by_cases h : 1 < (numL n).length
    · have h2 := numL_head n (by have := numL_one h; omega)
      rw [decide_eq_true h]
      simpa using h2
    · rw [decide_eq_false h]
      rfl
  rw [e]
  rfl
theorem val_lt {l : List Nat} (h : NumText.AllDigits l) : NumText.digitsVal l < 10 ^ l.length := by
  have key : ∀ (l : List Nat) (a : Nat), NumText.AllDigits l → l.foldl (fun acc c => acc * 10 + (c - 48)) a < (a + 1) * 10 ^ l.length := by
    intro l
    induction l with
    | nil => intro a _; simp
    | cons c r ih =>
      intro a h
      have hc := h.head
      have z := ih (a * 10 + (c - 48)) h.tail
      rw [List.foldl_cons, List.length_cons, Nat.pow_succ]
      refine Nat.lt_of_lt_of_le z ?_
      have : (a * 10 + (c - 48) + 1) ≤ (a + 1) * 10 := by omega
      calc (a * 10 + (c - 48) + 1) * 10 ^ r.length ≤ (a + 1) * 10 * 10 ^ r.length := Nat.mul_le_mul_right _ this
        _ = (a + 1) * (10 ^ r.length * 10) := by rw [Nat.mul_assoc, Nat.mul_comm 10]
  have z := key l 0 h
  simpa [NumText.digitsVal] using z
/-! ### cut at the last sign -/
def rcut (c : Nat) : List Nat → Option (List Nat × List Nat)
  | [] => none
  | x :: r => match rcut c r with
    | some (h, t) => some (x :: h, t)
    | none => if x = c then some ([], r) else none
theorem rcut_none {c : Nat} : ∀ {l : List Nat}, c ∉ l → rcut c l = none
  | [], _ => rfl
  | x :: r, h => by
    have h1 : c ∉ r := fun z => h (List.mem_cons_of_mem _ z)
    have h2 : x ≠ c := fun z => h (by rw [z]; exact List.mem_cons_self)
    unfold rcut
    rw [rcut_none h1]
    exact if_neg h2
theorem rcut_some {c : Nat} : ∀ (p : List Nat) {q : List Nat}, c ∉ q → rcut c (p ++ c :: q) = some (p, q)
  | [], q, h => by
    show rcut c (c :: q) = some ([], q)
    unfold rcut
    rw [rcut_none h]
    exact if_pos rfl
  | x :: p, q, h => by
    show rcut c (x :: (p ++ c :: q)) = some (x :: p, q)
    unfold rcut
    rw [rcut_some p h]
theorem rcut_is {c : Nat} : ∀ {l p q : List Nat}, rcut c l = some (p, q) → l = p ++ c :: q ∧ c ∉ q
  | [], _, _, h => by cases h
  | x :: r, p, q, h => by
    unfold rcut at h
    cases e : rcut c r with
    | some z =>
      obtain ⟨h1, h2⟩ := z
      rw [e] at h
      cases h
      obtain ⟨e1, e2⟩ := rcut_is e
      exact ⟨by rw [e1]; rfl, e2⟩
    | none =>
      rw [e] at h
      by_cases hx : x = c
      · have h' : some (([] : List Nat), r) = some (p, q) := by rw [← h]; simp [hx]
        cases h'
        refine ⟨by rw [hx]; rfl, fun z => ?_⟩
        obtain ⟨a, b, eab⟩ := List.append_of_mem z
        -- the last c of r
        have key : ∀ l : List Nat, c ∈ l → rcut c l ≠ none := by
          intro l
          induction l with
          | nil => intro z; cases z
          | cons y l ih =>
            intro z w
            unfold rcut at w
            cases e2 : rcut c l with
            | some k => rw [e2] at w; cases w
            | none =>
              rw [e2] at w
              rcases List.mem_cons.mp z with rfl | z
              · simp at w
              · exact ih z e2
        exact key r z e
      · simp [hx] at h
theorem rcut_nin {c : Nat} : ∀ {l : List Nat}, rcut c l = none → c ∉ l := by
  intro l
  induction l with
  | nil => intro _ z; cases z
  | cons y l ih =>
    intro w z
    unfold rcut at w
    cases e2 : rcut c l with
    | some k => rw [e2] at w; cases w
    | none =>
      rw [e2] at w
      rcases List.mem_cons.mp z with rfl | z
      · simp at w
      · exact ih e2 z
theorem rpartition_S (a : List Nat) (c : Nat) : Txt.rpartition (SX.S a) (SX.S [c]) = match rcut c a with
    | some (p, q) => (SX.S p, SX.S [c], SX.S q)
    | none => (SX.S [], SX.S [], SX.S a) := by
  have hy : tl (SX.S [c]) ≠ [] := by simp
  have pr : ∀ i, pre (tl (SX.S [c])) ((tl (SX.S a)).drop i) = true ↔ a[i]? = some c := fun i => by
    show ((a.drop i).take 1 == [c]) = true ↔ _
    rw [beq_iff_eq]
    by_cases hi : i < a.length
    · have e1 : a.drop i = a[i] :: a.drop (i + 1) := List.drop_eq_getElem_cons hi
      rw [e1, List.getElem?_eq_getElem hi, List.take_succ_cons, List.take_zero]
      constructor
      · intro z
        injection z with z1
        rw [z1]
      · intro z
        injection z with z1
        rw [z1]
    · rw [List.drop_eq_nil_of_le (by omega), List.getElem?_eq_none (by omega)]
      simp
  unfold Txt.rpartition
  rcases StrLaws.last_spec (SX.S a) (SX.S [c]) with ⟨e, h⟩ | ⟨i, e, h, k⟩
  · rw [e]
    have hn : c ∉ a := fun z => by
      obtain ⟨i, hi, hc⟩ := List.getElem_of_mem z
      exact h i ((at_iff hy i).mpr ((pr i).mpr (by rw [List.getElem?_eq_getElem hi, hc])))
    rw [rcut_none hn]
    rfl
  · rw [e]
    have hi := (pr i).mp ((at_iff hy i).mp h)
    obtain ⟨lt, hc⟩ := List.getElem?_eq_some_iff.mp hi
    have hq : c ∉ a.drop (i + 1) := fun z => by
      obtain ⟨j, hj, hcj⟩ := List.getElem_of_mem z
      rw [List.length_drop] at hj
      refine k (i + 1 + j) (by omega) ((at_iff hy _).mpr ((pr _).mpr ?_))
      rw [List.getElem_drop] at hcj
      rw [List.getElem?_eq_getElem (by omega), hcj]
    have ea : a = a.take i ++ c :: a.drop (i + 1) := by
      rw [← hc, List.getElem_cons_drop, List.take_append_drop]
    have er : rcut c a = some (a.take i, a.drop (i + 1)) := by
      conv => lhs; rw [ea]
      exact rcut_some _ hq
    rw [er]
    show (Builtin.Str.strSub (SX.S a) 0 i, SX.S [c], Builtin.Str.strSub (SX.S a) (i + (SX.S [c]).length) (SX.S a).length) = (SX.S (a.take i), SX.S [c], SX.S (a.drop (i + 1)))
    have e1 : Builtin.Str.strSub (SX.S a) 0 i = SX.S (a.take i) := ext_tl (by rw [tl_strSub]; simp)
    have e2 : Builtin.Str.strSub (SX.S a) (i + (SX.S [c]).length) (SX.S a).length = SX.S (a.drop (i + 1)) := ext_tl (by rw [tl_strSub_end]; simp [SX.S_len])
    rw [e1, e2]
/-! ### cut at the first sign -/
theorem pre1 (c x : Nat) (r : List Nat) : pre [c] (x :: r) = decide (x = c) := by
  show ([x] == [c]) = decide (x = c)
  by_cases h : x = c
  · rw [h, decide_eq_true rfl]
    simp
  · rw [decide_eq_false h]
    simpa using h
theorem par_is {c : Nat} : ∀ {l acc p q : List Nat}, par [c] acc l = some (p, q) → ∃ p', p = acc ++ p' ∧ l = p' ++ c :: q ∧ c ∉ p'
  | [], _, _, _, h => by cases h
  | x :: r, acc, p, q, h => by
    by_cases hx : x = c
    · have e : pre [c] (x :: r) = true := by rw [pre1, decide_eq_true hx]
      rw [par_hit e] at h
      cases h
      exact ⟨[], by simp, by rw [hx]; rfl, by simp⟩
    · have e : pre [c] (x :: r) = false := by rw [pre1, decide_eq_false hx]
      rw [par_miss e] at h
      obtain ⟨p', e1, e2, e3⟩ := par_is h
      refine ⟨x :: p', by rw [e1]; simp, by rw [e2]; rfl, fun z => ?_⟩
      rcases List.mem_cons.mp z with z | z
      · exact hx z.symm
      · exact e3 z
theorem par_nin {c : Nat} : ∀ {l acc : List Nat}, par [c] acc l = none → c ∉ l
  | [], _, _ => by simp
  | x :: r, acc, h => by
    by_cases hx : x = c
    · have e : pre [c] (x :: r) = true := by rw [pre1, decide_eq_true hx]
      rw [par_hit e] at h
      cases h
    · have e : pre [c] (x :: r) = false := by rw [pre1, decide_eq_false hx]
      rw [par_miss e] at h
      intro z
      rcases List.mem_cons.mp z with z | z
      · exact hx z.symm
      · exact par_nin h z
/-! ### moments -/
def two (m : Nat) : List Nat := [48 + m / 10, 48 + m % 10]
def clk (m : Nat) : List Nat := numL (m % 1440 / 60) ++ 58 :: two (m % 60)
def shw (m : Nat) : List Nat := if m / 1440 = 0 then clk m else numL (m / 1440) ++ 32 :: clk m
def dayOf (l : List Nat) : Option Nat := match num? l with
  | some 0 => none
  | o => o
def clkOf (l : List Nat) : Option Nat := match par [58] [] l with
  | none => none
  | some (h, m) => if decide (m.length = 2) && figs m then (match num? h with
    | some k => if k < 24 ∧ val m < 60 then some (k * 60 + val m) else none
    | none => none) else none
def momOf (l : List Nat) : Option Nat := match rcut 32 l with
  | none => clkOf l
  | some (h, t) => match dayOf h with
    | none => none
    | some d => (clkOf t).map fun m => d * 1440 + m
theorem two_val {m : Nat} (h : m < 60) : figs (two m) = true ∧ val (two m) = m := by
  have all : ∀ m, m < 60 → (figs (two m) && decide (val (two m) = m)) = true := by decide +kernel
  have z := all m h
  rw [Bool.and_eq_true, decide_eq_true_eq] at z
  exact z
theorem clkOf_clk (m : Nat) : clkOf (clk m) = some (m % 1440) := by
  unfold clkOf clk
  have e := SX.par_head (c := 58) (sep := []) (two (m % 60)) (p := numL (m % 1440 / 60)) (numL_free (.inr (by decide)))
  rw [show numL (m % 1440 / 60) ++ 58 :: two (m % 60) = numL (m % 1440 / 60) ++ ([58] ++ two (m % 60)) from rfl]
  rw [show par [58] [] (numL (m % 1440 / 60) ++ ([58] ++ two (m % 60))) = some (numL (m % 1440 / 60), two (m % 60)) from e]
  obtain ⟨h1, h2⟩ := two_val (show m % 60 < 60 by omega)
  show (if decide ((two (m % 60)).length = 2) && figs (two (m % 60)) then _ else none) = _
  rw [h1, num_num, h2]
  have : m % 1440 / 60 < 24 ∧ m % 60 < 60 := by omega
  simp only [this, and_self, if_true, two]
  simp
  omega
theorem clk_free (m : Nat) : 32 ∉ clk m := by
  unfold clk
  intro z
  rcases List.mem_append.mp z with z | z
  · exact numL_free (.inl (by decide)) z
  · simp only [two, List.mem_cons, List.not_mem_nil, or_false] at z
    omega
theorem momOf_shw (m : Nat) : momOf (shw m) = some m := by
  unfold momOf shw
  by_cases h : m / 1440 = 0
  · rw [if_pos h, rcut_none (clk_free m), clkOf_clk]
    simp
    omega
  · rw [if_neg h, rcut_some _ (clk_free m)]
    have e : dayOf (numL (m / 1440)) = some (m / 1440) := by
      unfold dayOf
      rw [num_num]
      cases k : m / 1440 with
      | zero => exact absurd k h
      | succ j => rfl
    simp only [e, clkOf_clk]
    simp
    omega
theorem shw_len {m k : Nat} (hk : 0 < k) (h : m < 10 ^ k) : (shw m).length ≤ k + 8 := by
  have h1 : (numL (m % 1440 / 60)).length ≤ 2 := numL_len (by decide) (by omega)
  have h2 : (numL (m / 1440)).length ≤ k := numL_len hk (Nat.lt_of_le_of_lt (Nat.div_le_self _ _) h)
  unfold shw clk two
  split <;> simp <;> omega
theorem shw_inj {m n : Nat} (h : shw m = shw n) : m = n := by
  have e := momOf_shw m
  rw [h, momOf_shw] at e
  exact (Option.some.inj e).symm
end Mo
namespace Mo
open PySem TL L2
/-! ### slices -/
theorem cut_to (l : List Nat) (k : Nat) : cutS (SX.S l) none (some (k : Int)) = SX.S (l.take k) := by
  unfold cutS
  rw [HT.sIx_nat, HT.sIx_none]
  refine ext_tl ?_
  show (l.drop 0).take (min k (SX.S l).length - 0) = l.take k
  rw [SX.S_len, List.drop_zero, Nat.sub_zero, List.take_eq_take_iff]
  omega
theorem cut_from (l : List Nat) (k : Nat) : cutS (SX.S l) (some (k : Int)) none = SX.S (l.drop k) := by
  unfold cutS
  rw [HT.sIx_nat, HT.sIx_none]
  refine ext_tl ?_
  show (l.drop (min k (SX.S l).length)).take ((SX.S l).length - min k (SX.S l).length) = l.drop k
  rw [SX.S_len]
  by_cases h : k ≤ l.length
  · rw [Nat.min_eq_left h]
    exact List.take_of_length_le (by rw [List.length_drop]; omega)
  · rw [Nat.min_eq_right (by omega), List.drop_eq_nil_of_le (Nat.le_refl _), List.drop_eq_nil_of_le (by omega)]
    simp
theorem cut_mid (l : List Nat) (i j : Nat) : cutS (SX.S l) (some (i : Int)) (some (j : Int)) = SX.S ((l.drop i).take (j - i)) := by
  unfold cutS
  rw [HT.sIx_nat, HT.sIx_nat]
  refine ext_tl ?_
  show (l.drop (min i (SX.S l).length)).take (min j (SX.S l).length - min i (SX.S l).length) = (l.drop i).take (j - i)
  rw [SX.S_len]
  by_cases h : i ≤ l.length
  · rw [Nat.min_eq_left h, List.take_eq_take_iff, List.length_drop]
    omega
  · rw [Nat.min_eq_right (by omega : l.length ≤ i), List.drop_eq_nil_of_le (Nat.le_refl _), List.drop_eq_nil_of_le (by omega : l.length ≤ i)]
    simp
end Mo
namespace Mo
open PySem TL L2
/-! ### split at one sign -/
theorem spl_ne (S : List Nat) : ∀ (k : Nat) (acc l : List Nat), spl S k acc l ≠ []
  | k, acc, [] => by rw [spl_nil]; simp
  | 0, acc, c :: r => by
    unfold spl
    split
    · simp
    · exact spl_ne S 0 _ r
  | k + 1, acc, c :: r => by
    unfold spl
    exact spl_ne S k acc r
theorem first_of {c : Nat} : ∀ {l : List Nat}, c ∈ l → ∃ p q, l = p ++ c :: q ∧ c ∉ p
  | x :: r, h => by
    by_cases hx : x = c
    · exact ⟨[], r, by rw [hx]; rfl, by simp⟩
    · rcases List.mem_cons.mp h with h | h
      · exact absurd h.symm hx
      · obtain ⟨p, q, e, n⟩ := first_of h
        refine ⟨x :: p, q, by rw [e]; rfl, fun z => ?_⟩
        rcases List.mem_cons.mp z with z | z
        · exact hx z.symm
        · exact n z
theorem spl_cut {c : Nat} {p : List Nat} (q : List Nat) (h : c ∉ p) : spl [c] 0 [] (p ++ c :: q) = p :: spl [c] 0 [] q := by
  have e := spl_part1 (s := c) (S := []) (rest := q) (acc := []) h
  simpa using e
theorem spl_one {c : Nat} {p : List Nat} (h : c ∉ p) : spl [c] 0 [] p = [p] := by
  have e := spl_last1 (s := c) (S := []) (acc := []) h
  simpa using e
theorem spl_two {c : Nat} {l : List Nat} (h : c ∈ l) : 2 ≤ (spl [c] 0 [] l).length := by
  obtain ⟨p, q, rfl, n⟩ := first_of h
  rw [spl_cut q n]
  have := spl_ne [c] 0 [] q
  cases e : spl [c] 0 [] q with
  | nil => exact absurd e this
  | cons a r => simp
theorem spl_le (c : Nat) : ∀ (n : Nat) (l : List Nat), l.length ≤ n → (∀ p ∈ spl [c] 0 [] l, p.length ≤ l.length) ∧ (spl [c] 0 [] l).length ≤ l.length + 1
  | n, l, hn => by
    by_cases h : c ∈ l
    · obtain ⟨p, q, rfl, np⟩ := first_of h
      cases n with
      | zero => simp at hn
      | succ m =>
        have ih := spl_le c m q (by simp at hn; omega)
        rw [spl_cut q np]
        refine ⟨fun x hx => ?_, ?_⟩
        · rcases List.mem_cons.mp hx with rfl | hx
          · simp
          · have := ih.1 x hx
            simp
            omega
        · have := ih.2
          simp
          omega
    · rw [spl_one h]
      simp
/-- the words of a text, by its last blank -/
theorem words_of (l : List Nat) : (rcut 32 l = none ∧ spl [32] 0 [] l = [l]) ∨ (∃ h t, rcut 32 l = some (h, t) ∧ spl [32] 0 [] l = [h, t]) ∨ (momOf l = none ∧ 2 < (spl [32] 0 [] l).length) := by
  cases e : rcut 32 l with
  | none => exact .inl ⟨rfl, spl_one (rcut_nin e)⟩
  | some z =>
    obtain ⟨h, t⟩ := z
    obtain ⟨el, nt⟩ := rcut_is e
    by_cases hb : 32 ∈ h
    · refine .inr (.inr ⟨?_, ?_⟩)
      · unfold momOf
        rw [e]
        have : dayOf h = none := by
          have hf : figs h = false := by
            cases f : figs h with
            | false => rfl
            | true =>
              have := (figs_iff.mp f).2 32 hb
              omega
          unfold dayOf num?
          rw [hf]
          rfl
        simp only [this]
      · obtain ⟨p, q, eh, np⟩ := first_of hb
        rw [el, eh, List.append_assoc]
        show 2 < (spl [32] 0 [] (p ++ 32 :: (q ++ 32 :: t))).length
        rw [spl_cut _ np]
        have := spl_two (c := 32) (l := q ++ 32 :: t) (by simp)
        simp
        omega
    · refine .inr (.inl ⟨h, t, rfl, ?_⟩)
      rw [el, spl_cut t hb, spl_one nt]
theorem parts_of (u : List Nat) : (∃ h m, spl [58] 0 [] u = [h, m] ∧ h.length + m.length < u.length ∧ clkOf u = if decide (m.length = 2) && figs m then (match num? h with
      | some k => if k < 24 ∧ val m < 60 then some (k * 60 + val m) else none
      | none => none) else none) ∨ (clkOf u = none ∧ (spl [58] 0 [] u).length ≠ 2) := by
  cases e : par [58] [] u with
  | none =>
    refine .inr ⟨by unfold clkOf; rw [e], ?_⟩
    rw [spl_one (par_nin e)]
    simp
  | some z =>
    obtain ⟨h, m⟩ := z
    obtain ⟨h', eh, eu, nh⟩ := par_is e
    have eh2 : h = h' := by rw [eh]; rfl
    subst eh2
    by_cases hm : 58 ∈ m
    · refine .inr ⟨?_, ?_⟩
      · unfold clkOf
        rw [e]
        have hf : figs m = false := by
          cases f : figs m with
          | false => rfl
          | true =>
            have := (figs_iff.mp f).2 58 hm
            omega
        simp only [hf, Bool.and_false]
        rfl
      · rw [eu, spl_cut m nh]
        have := spl_two hm
        simp
        omega
    · refine .inl ⟨h, m, ?_, by rw [eu]; simp, ?_⟩
      · rw [eu, spl_cut m nh, spl_one hm]
      · unfold clkOf
        rw [e]
end Mo
namespace Mo
open PySem TL L2
theorem val_zero {h : List Nat} {n : Nat} (hn : num? h = some n) (h0 : n = 0) : h = [48] := by
  unfold num? at hn
  split at hn
  · rename_i c
    obtain ⟨c1, c2⟩ := Bool.and_eq_true_iff.mp c
    obtain ⟨h1, h2⟩ := figs_iff.mp c1
    have ev : val h = 0 := by
      have := Option.some.inj hn
      omega
    cases h with
    | nil => exact absurd rfl h1
    | cons a r =>
      have ha := h2 a List.mem_cons_self
      cases r with
      | nil =>
        have : val [a] = a - 48 := by simp [val, NumText.digitsVal]
        have : a = 48 := by omega
        rw [this]
      | cons b t =>
        exfalso
        have c3 : ((b :: t).length + 1 > 1) := by simp
        have hz : a ≠ 48 := fun z => by
          rw [z] at c2
          simp at c2
        have key : ∀ (l : List Nat) (acc : Nat), 1 ≤ acc → 1 ≤ l.foldl (fun acc c => acc * 10 + (c - 48)) acc := by
          intro l
          induction l with
          | nil => intro acc h; exact h
          | cons c r ih => intro acc h; exact ih _ (by show 1 ≤ acc * 10 + (c - 48); omega)
        have z := key (b :: t) (0 * 10 + (a - 48)) (by omega)
        have e : val (a :: b :: t) = (b :: t).foldl (fun acc c => acc * 10 + (c - 48)) (0 * 10 + (a - 48)) := rfl
        omega
  · cases hn
end Mo
set_option Elab.async false
set_option linter.all false
set_option maxRecDepth 100000
set_option maxHeartbeats 4000000
namespace L3
open PySem PySem.Spec PyProof.Rows L2
/-! ### try .. except (X1, X2, X3) as n -/
theorem flying_keeps {B h h' : Heap} {l : List Env} {a : Addr} {Z : Obj → Prop} (f : HandSPX.FlyingZ B l a Z h) (k : ∀ b o, h.get? b = some o → h'.get? b = some o) : HandSPX.FlyingZ B l a Z h' := by
  obtain ⟨f1, f2, f3, oe, vs, T, oT, ts, g1, g2, g3, g4, g5, g6, g7, g8⟩ := f
  exact ⟨fun b o e => k _ _ (f1 b o e), f2, Heap.FunFrames.of_keeps (fun b o e _ => ⟨o, k _ _ e, rfl⟩) f3, oe, vs, T, oT, ts, k _ _ g1, g2, g3, g4, g5, g6, k _ _ g7, g8⟩
/-- what such a clause wishes of an exception of the body: it is caught; slot i is n's -/
def wTup (K : PySem.W.Frag) (cs : List Value) (i : Nat) (ts : Addr → Value → Option Addr → TS) (D : Ends) : WX := fun cls d σ H =>
  PySem.W.exmAny K cls cs = some true ∧ ∀ a, H a = none → ts a cls d { nx := fun σ' H' => D.nx (σ'.set i none) H', rt := D.rt, bk := fun σ' H' => D.bk (σ'.set i none) H', ct := fun σ' H' => D.ct (σ'.set i none) H' } (σ.set i (some (.ref a))) H
section
variable {X : Cx} {x1 x2 x3 n : Str} {c1 c2 c3 : Value} {i k3 : Nat} {body suite : List Stmt} {b₀ : Stmt} {p1 p2 p3 tp pos pos' : Pos} {tb : WX → TS} {ts : Addr → Value → Option Addr → TS}
theorem ps_try_tup (hs : X.stack = X.env :: X.outer) (hf : X.env.frame = some X.env.locals) (hN : X.N.Nodup) (hi : X.N[i]? = some n) (hln : X.env.kindOf n = some .local)
    (m1 : X.mg x1 = some c1) (m2 : X.mg x2 = some c2) (m3 : X.mg x3 = some c3)
    (hb : ∀ (W : WX) (pn : List (Addr × Obj)) (xe : Value → Shared → Prop), Takes (X.tr pn xe) W → PassesOwn (model X.prog X.w) X.A X.env xe → PSs (X.tr pn xe) body (tb W))
    (hsu : ∀ (a : Addr) (oe : Obj) (cls : Value) (d : Option Addr) (pn : List (Addr × Obj)), Zc cls d oe → (∃ vs, oe.data = .fields vs) → PSs (X.suite a ((a, oe) :: pn)) (b₀ :: suite) (ts a cls d))
    (g1 : Gl X x1 := by rfl) (g2 : Gl X x2 := by rfl) (g3 : Gl X x3 := by rfl) (d1 : (x1 == ("__debug__" : Str)) = false := by decide) (d2 : (x2 == ("__debug__" : Str)) = false := by decide) (d3 : (x3 == ("__debug__" : Str)) = false := by decide) :
    PS X (.Try body [.ExceptHandler (some (.Tuple [.Name x1 p1, .Name x2 p2, .Name x3 p3] k3 tp)) (some n) (b₀ :: suite) pos'] [] [] pos) (fun D σ H => tb (wTup X.K [c1, c2, c3] i ts D) D σ H) := by
  refine ⟨fun pins s σ H D I h => ?_⟩
  have ok := I.ok
  have hfr : X.A.frames = some (X.env :: X.outer) := by rw [ok.frames, hs]
  refine wpAny_Try_except ?_
  refine wpAny_mono ((hb (wTup X.K [c1, c2, c3] i ts D) (X.pn ++ pins) (fun e s₁ => wpAny (model X.prog X.w) X.A (noteFrame e X.env) (fun _ s₂ => wpAny (model X.prog X.w) X.A (setFlight e none) (fun _ s₃ =>
    wpAny (model X.prog X.w) X.A (handleBy e X.env [.ExceptHandler (some (.Tuple [.Name x1 p1, .Name x2 p2, .Name x3 p3] k3 tp)) (some n) (b₀ :: suite) pos']) (SP X pins D) X.xe s₃) X.xe s₂) X.xe s₁) (fun u s' xx => ?_) PassesOwn.looking).run [] s σ H D (I.toTry _) h) (fun f s1 hsp => ?_) (fun e s1 he => he)
  · obtain ⟨a, B, sI, pins', σ', H', cls, d, rfl, J', nb, up, sky, na, os, ag, hb1, hyes⟩ := xx
    have J : Inv X pins σ' H' sI := J'.ofTry ok
    have sky' : Sky B (X.env :: X.outer) a (Zc cls d) X.env.locals s'.heap := by rw [← hs]; exact sky
    show wpAny (model X.prog X.w) X.A (noteFrame (.ref a) X.env) _ _ _
    refine Sky.land Zc.steady hfr hf sky' fun h3 fl3 up3 => ?_
    have J3 : Inv X pins σ' H' { s' with heap := h3 } := J.landed nb fl3.1 (up.trans up3) os ag
    obtain ⟨oe3, vs3, he3, hz3, hd3⟩ := fl3.there
    have nfr : a ∉ frs (X.env :: X.outer) := fun hm => by
      obtain ⟨_, o', e', hnf⟩ := fl3.2.2.1.mem hm
      rw [he3] at e'
      cases e'
      exact hnf _ hd3
    have nL : a ≠ X.env.locals := fun z => nfr (List.mem_filterMap.mpr ⟨X.env, List.mem_cons_self, by rw [hf, z]⟩)
    have nF : a ∉ X.fs := fun hm => by
      obtain ⟨e, he, q⟩ := List.mem_filterMap.mp hm
      exact nfr (List.mem_filterMap.mpr ⟨e, List.mem_cons_of_mem _ he, q⟩)
    have S3 := J3.suite he3 hd3 na nL nF
    refine wpAny_handleBy_cons (codeAny_handlers_test ?_) (by intro q; cases q)
    refine wpAny_Tuple_spliced ?_
    refine Calls.spliced_cons (ld_glob (X := X.suite a ((a, oe3) :: (X.pn ++ pins))) S3 g1 m1 ?_ d1)
    refine Calls.spliced_cons (ld_glob (X := X.suite a ((a, oe3) :: (X.pn ++ pins))) S3 g2 m2 ?_ d2)
    refine Calls.spliced_cons (ld_glob (X := X.suite a ((a, oe3) :: (X.pn ++ pins))) S3 g3 m3 ?_ d3)
    refine Calls.spliced_nil ⟨by show 3 ≤ sizeLine; rw [sizeLine_eq]; decide, ?_⟩
    have kp : ∀ b o, h3.get? b = some o → (h3.push { cls := .type "tuple", data := .seq [c1, c2, c3].toArray }).get? b = some o := fun b o e => Heap.get?_push_of_some _ e
    have LT : PySem.W.Looks (model X.prog X.w) (h3.push { cls := .type "tuple", data := .seq [c1, c2, c3].toArray }) (typeOf (.ref a)) cls := fun A Q E s k q => wpAny_typeOf_ref (k _ _ (kp _ _ he3)) (by rw [hz3.1]; exact q)
    have LM := PySem.W.exm_tup3 (M := model X.prog X.w) (J3.kIn.keeps kp) LT (Heap.get?_push_size _ rfl) hb1
    refine LM.here ?_
    refine codeAny_handlers_suite_as ?_
    refine HandSPX.lands_againZ (flying_keeps fl3 kp) fun h4 fl4 up4 => ?_
    have J4 : Inv X pins σ' H' { s' with heap := h4 } := J.landed nb fl4.1 (((up.trans up3).trans (Heap.UpToSlots.of_keeps kp)).trans up4) os ag
    obtain ⟨oe4, vs4, he4, hz4, hd4⟩ := fl4.there
    have S4 := J4.suite he4 hd4 na nL nF
    refine store_ok (X := X.suite a ((a, oe4) :: (X.pn ++ pins))) (v := .ref a) S4 hN hi (.inl hln) rfl (fun s5 S5 => ?_) (.inr hln)
    refine wpAny_mono ((hsu a oe4 cls d (X.pn ++ pins) hz4 ⟨_, hd4⟩).run [] s5 _ H' _ S5 (hyes a na)) (fun f s6 hsp => ?_) (fun _ _ z => False.elim z)
    have end_ : ∀ {σ6 : L2.St} {H6 : Hp} {Q : Shared → Prop}, Inv (X.suite a ((a, oe4) :: (X.pn ++ pins))) [] σ6 H6 s6 → (∀ s7, Inv X pins (σ6.set i none) H6 s7 → Q s7) →
        wpAny (model X.prog X.w) X.A (do bindName X.env n .none; unbindBehindTheSuite X.env n pos') (fun _ s7 => Q s7) X.xe s6 := fun {σ6 H6 Q} S6 hq => gone_ok (S6.unsuite ok) hN hi hln hq
    cases f with
    | next =>
      obtain ⟨σ6, H6, S6, q6⟩ := hsp
      exact end_ S6 fun s7 J7 => ⟨_, _, J7, q6⟩
    | brk =>
      obtain ⟨σ6, H6, S6, q6⟩ := hsp
      exact end_ S6 fun s7 J7 => ⟨_, _, J7, q6⟩
    | cont =>
      obtain ⟨σ6, H6, S6, q6⟩ := hsp
      exact end_ S6 fun s7 J7 => ⟨_, _, J7, q6⟩
    | ret u =>
      obtain ⟨v6, σ6, H6, S6, r6, q6⟩ := hsp
      exact end_ S6 fun s7 J7 => ⟨_, _, _, J7, r6, q6⟩
  · cases f with
    | next =>
      obtain ⟨σ6, H6, S6, q6⟩ := hsp
      exact wpAny_execs_nil ⟨_, _, S6.ofTry ok, q6⟩
    | brk =>
      obtain ⟨σ6, H6, S6, q6⟩ := hsp
      exact ⟨_, _, S6.ofTry ok, q6⟩
    | cont =>
      obtain ⟨σ6, H6, S6, q6⟩ := hsp
      exact ⟨_, _, S6.ofTry ok, q6⟩
    | ret u =>
      obtain ⟨v6, σ6, H6, S6, r6, q6⟩ := hsp
      exact ⟨_, _, _, S6.ofTry ok, r6, q6⟩
end
/-! ### isinstance(e, ..), e the exception that the suite holds -/
def rIsA (K : PySem.W.Frag) (a : Addr) (cls : Value) (d : Option Addr) : List V → Hp → VK → Prop := fun xs H Q => ∃ (D : Addr) (c : V) (cv : Value) (b : Bool), cls = .ref D ∧ d = none ∧ ExcC K D ∧ xs = [.ref a, c] ∧ ClsV c cv ∧ PySem.W.kitOne K (.ref D) cv = some b ∧ Q (.bl b) H
def rIsAT (K : PySem.W.Frag) (a : Addr) (cls : Value) (d : Option Addr) : List V → Hp → VK → Prop := fun xs H Q => ∃ (D tp : Addr) (cs : List V) (us : List Value) (b : Bool), cls = .ref D ∧ d = none ∧ ExcC K D ∧ xs = [.ref a, .ref tp] ∧ H tp = some (.tup cs) ∧ Paired ClsV cs us ∧ PySem.W.kitAny K (.ref D) us = some b ∧ Q (.bl b) H
section
variable {X : Cx} {a : Addr} {cls : Value} {d : Option Addr} {oe : Obj} {pn : List (Addr × Obj)}
theorem suite_inst {pins : List (Addr × Obj)} {s : Shared} {σ : L2.St} {H : Hp} {D : Addr} (I : Inv (X.suite a ((a, oe) :: pn)) pins σ H s) (hz : Zc (.ref D) none oe) (hf : ∃ vs, oe.data = .fields vs) : PySem.W.InstAt s.heap a oe D none := by
  obtain ⟨hget, _⟩ := I.pin (a, oe) (List.mem_append.mpr (.inl List.mem_cons_self))
  obtain ⟨vs, hv⟩ := hf
  obtain ⟨oc, od, oda, osl⟩ := oe
  obtain ⟨h1, h2⟩ := hz
  dsimp only at h1 h2 hv
  subst h1 h2 hv
  exact ⟨hget, rfl, rfl, trivial⟩
theorem call_isA (hz : Zc cls d oe) (hf : ∃ vs, oe.data = .fields vs) : CallR (X.suite a ((a, oe) :: pn)) (.builtin "isinstance") (rIsA X.K a cls d) := by
  intro pins s σ H xs us Q I r h
  obtain ⟨D, c, cv, b, rfl, rfl, C, rfl, k, e, q⟩ := h
  obtain ⟨u1, u2, rfl, r1, r2⟩ := vals2 r
  have e2 := k.eq r2
  subst e2
  cases (show u1 = Value.ref a from r1)
  exact PySem.W.kia_one (PySem.W.handS_kitx_exc C.hg C.hk C.hs C.hd C.ha C.hn C.ht C.hm) I.kIn (suite_inst I hz hf) e (fun z => nomatch z) fun tk => ⟨.bl b, H, I.kept (t' := tk) fun _ _ z => z, rfl, q⟩
theorem call_isAT (hz : Zc cls d oe) (hf : ∃ vs, oe.data = .fields vs) : CallR (X.suite a ((a, oe) :: pn)) (.builtin "isinstance") (rIsAT X.K a cls d) := by
  intro pins s σ H xs us Q I r h
  obtain ⟨D, tp, cs, ws, b, rfl, rfl, C, rfl, hT, k, e, q⟩ := h
  obtain ⟨u1, u2, rfl, r1, r2⟩ := vals2 r
  cases (show u1 = Value.ref a from r1)
  cases (show u2 = Value.ref tp from r2)
  obtain ⟨_, its, rv, o, h1, h2, n, h3⟩ := (show ObjOk X.prog X.w H s.heap tp (.tup cs) from I.hok tp _ hT)
  have e3 := ClsV.all k rv
  subst e3
  obtain ⟨oc, od, dt, sl⟩ := o
  simp only at h2 h3
  subst h2 h3
  exact PySem.W.kia_tup (PySem.W.handS_kitx_exc C.hg C.hk C.hs C.hd C.ha C.hn C.ht C.hm) I.kIn (suite_inst I hz hf) h1 e (fun z => nomatch z) fun tk => ⟨.bl b, H, I.kept (t' := tk) fun _ _ z => z, rfl, q⟩
end
def excCB (x : Str) : Fx := fun K => He.eqO (PySem.W.findIn K (.ref (He.ga K x)) "__getattribute__") (some (some (.builtin "BaseException.__getattribute__"))) && (He.eqO (PySem.W.findIn K (.ref (He.ga K x)) "__getattr__") (some none) && (decide (PySem.W.subIn K (.ref (He.ga K x)) (.type "BaseException") = some true) && (PySem.W.hasDictIn K (He.ga K x) &&
  (He.eqO (PySem.W.findIn K (.ref (He.ga K x)) "__class__") (some (some (.builtin "object.__class__"))) && (He.eqO (PySem.W.specialIn K (.builtin "object.__class__") "__get__") (some (some (.builtin "getset_descriptor.__get__"))) && (decide (PySem.W.takesIn K (.builtin "object.__class__") = some true) && decide (PySem.W.mroIn K (He.ga K x) (.type "object") = some true)))))))
theorem excC_of {x : Str} {K : PySem.W.Frag} (h : excCB x K = true) : ExcC K (He.ga K x) := by
  obtain ⟨h1, h⟩ := He.ba h
  obtain ⟨h2, h⟩ := He.ba h
  obtain ⟨h3, h⟩ := He.ba h
  obtain ⟨h4, h⟩ := He.ba h
  obtain ⟨h5, h⟩ := He.ba h
  obtain ⟨h6, h⟩ := He.ba h
  obtain ⟨h7, h8⟩ := He.ba h
  exact ⟨He.eqO_ok h1, He.eqO_ok h2, of_decide_eq_true h3, h4, He.eqO_ok h5, He.eqO_ok h6, of_decide_eq_true h7, of_decide_eq_true h8⟩
def kitF (x y : Str) (b : Bool) : Fx := fun K => decide (PySem.W.kitOne K (.ref (He.ga K x)) (.ref (He.ga K y)) = some b)
def kitFT (x : Str) (y : String) (b : Bool) : Fx := fun K => decide (PySem.W.kitOne K (.ref (He.ga K x)) (.type y) = some b)
def exm3F (x : Str) (ys : List Str) : Fx := fun K => decide (PySem.W.exmAny K (.ref (He.ga K x)) (ys.map fun y => .ref (He.ga K y)) = some true)
end L3
set_option Elab.async false
set_option linter.all false
set_option maxRecDepth 100000
set_option maxHeartbeats 4000000
namespace L3
open PySem PySem.Spec PyProof.Rows L2
/-! ### repr of data with dicts in it -/
def keyD : Key → PyData
  | .inl i => .int i
  | .inr x => .str x
def zipK : List (Key × V) → List PyData → List (PyData × PyData)
  | (k, _) :: r, d :: ds => (keyD k, d) :: zipK r ds
  | _, _ => []
inductive Dq (K : PySem.W.Frag) (H : Hp) : V → PyData → Prop
  | non : Dq K H .non .none
  | bl (b : Bool) : Dq K H (.bl b) (.bool b)
  | int (i : Int) : Dq K H (.int i) (.int i)
  | str (x : Str) : Dq K H (.str x) (.str x)
  | lst {a : Addr} {xs : List V} {ds : List PyData} : SqL K H a xs → xs.length = ds.length → (∀ (i : Nat) (x : V) (d : PyData), xs[i]? = some x → ds[i]? = some d → Dq K H x d) → Dq K H (.ref a) (.list ds)
  | tup {a : Addr} {xs : List V} {ds : List PyData} : SqT K H a xs → xs.length = ds.length → (∀ (i : Nat) (x : V) (d : PyData), xs[i]? = some x → ds[i]? = some d → Dq K H x d) → Dq K H (.ref a) (.tuple ds)
  | dct {a : Addr} {kvs : List (Key × V)} {ds : List PyData} : H a = some (.dK kvs) → kvs.length = ds.length → (∀ (i : Nat) (k : Key) (x : V) (d : PyData), kvs[i]? = some (k, x) → ds[i]? = some d → Dq K H x d) → Dq K H (.ref a) (.dict (zipK kvs ds))
theorem Dq.mono {K : PySem.W.Frag} {H H' : Hp} {x : V} {d : PyData} (e : Ex H H') (h : Dq K H x d) : Dq K H' x d := by
  induction h with
  | non => exact .non
  | bl b => exact .bl b
  | int i => exact .int i
  | str x => exact .str x
  | lst s l _ ih => exact .lst (ex_sql e s) l ih
  | tup s l _ ih => exact .tup (ex_sqt e s) l ih
  | dct s l _ ih => exact .dct (e _ _ s) l ih
theorem all_reads {h : Heap} : ∀ (xs : List V) (ds : List PyData) (us : List Value), xs.length = ds.length → Vals xs us → (∀ (i : Nat) (x : V) (d : PyData), xs[i]? = some x → ds[i]? = some d → ∀ u, RelV x u → ∃ as, Reads h u d as ∧ sysModules ∉ as) → ∃ as, ReadsAll h us ds as ∧ sysModules ∉ as
  | [], [], _, _, r, _ => by
    cases r
    exact ⟨_, .nil, by simp⟩
  | x :: xs, d :: ds, _, l, r, h => by
    cases r with
    | cons r1 r2 =>
      obtain ⟨as, q1, n1⟩ := h 0 x d rfl rfl _ r1
      obtain ⟨bs, q2, n2⟩ := all_reads xs ds _ (by simpa using l) r2 fun i y e h1 h2 => h (i + 1) y e (by simpa using h1) (by simpa using h2)
      refine ⟨_, .cons q1 q2, fun z => ?_⟩
      rcases List.mem_append.mp z with z | z
      · exact n1 z
      · exact n2 z
theorem key_reads {h : Heap} {k : Key} {v : Value} (e : keyIs k v = true) : Reads h v (keyD k) [] := by
  rcases keyIs_shape e with ⟨i, t, rfl, rfl⟩ | ⟨x, t, rfl, rfl⟩
  · exact .int i t
  · exact .str x t
theorem kv_reads {P : Program} {w : World} {h : Heap} : ∀ (kvs : List (Key × V)) (ds : List PyData) (es : List DictEntry) (vs : List (Key × Value)), kvs.length = ds.length → KV kvs vs → Pairs (mixKind P w) es vs →
    (∀ (i : Nat) (k : Key) (x : V) (d : PyData), kvs[i]? = some (k, x) → ds[i]? = some d → ∀ u, RelV x u → ∃ as, Reads h u d as ∧ sysModules ∉ as) →
    ReadsAll h (es.map (·.key)) ((zipK kvs ds).map (·.1)) [] ∧ ∃ bs, ReadsAll h (es.map (·.val)) ((zipK kvs ds).map (·.2)) bs ∧ sysModules ∉ bs
  | [], [], es, vs, _, r, p, _ => by
    cases r
    cases p
    exact ⟨.nil, _, .nil, by simp⟩
  | (k, x) :: kvs, d :: ds, es, vs, l, r, p, h => by
    cases r with
    | cons r1 r2 =>
      cases p with
      | cons p1 p2 p3 =>
        obtain ⟨as, q1, n1⟩ := h 0 k x d rfl rfl _ r1.2
        obtain ⟨h1, bs, q2, n2⟩ := kv_reads kvs ds _ _ (by simpa using l) r2 p3 fun i k' y e h1 h2 => h (i + 1) k' y e (by simpa using h1) (by simpa using h2)
        refine ⟨ReadsAll.cons (as := []) (bs := []) (key_reads (by have e : k = _ := r1.1; subst e; exact p1)) h1, as ++ bs, ReadsAll.cons (by rw [← p2] at q1; exact q1) q2, fun z => ?_⟩
        rcases List.mem_append.mp z with z | z
        · exact n1 z
        · exact n2 z
/-- the part that is written holds sys.modules: a dict -/
def SysK (K : PySem.W.Frag) : Prop := ∃ o, K.lookup sysModules = some o ∧ o.cls = .type "dict"
def sysB : Fx := fun K => match K.lookup sysModules with
  | some o => match o.cls with
    | .type n => n == "dict"
    | _ => false
  | none => false
theorem sys_of {K : PySem.W.Frag} (h : sysB K = true) : SysK K := by
  unfold sysB at h
  split at h
  · rename_i o e
    split at h
    · rename_i n c
      have : n = "dict" := by simpa using h
      exact ⟨o, e, by rw [c, this]⟩
    · cases h
  · cases h
theorem Dq.reads {X : Cx} {pins : List (Addr × Obj)} {σ : L2.St} {H : Hp} {s : Shared} (I : Inv X pins σ H s) (S : SysK X.K) {x : V} {d : PyData} (h : Dq X.K H x d) : ∀ u, RelV x u → ∃ as, Reads s.heap u d as ∧ sysModules ∉ as := by
  obtain ⟨o1, k1, c1⟩ := S
  have g1 := I.kIn _ _ k1
  induction h with
  | non =>
    intro u r
    cases r
    exact ⟨_, .none, by simp⟩
  | bl b =>
    intro u r
    cases r
    exact ⟨_, .bool b, by simp⟩
  | int i =>
    rintro u ⟨t, rfl⟩
    exact ⟨_, .int i t, by simp⟩
  | str x =>
    rintro u ⟨t, rfl⟩
    exact ⟨_, .str x t, by simp⟩
  | @lst a xs ds hs l _ ih =>
    intro u r
    cases r
    obtain ⟨its, rv, ⟨o, n, ho, hc, _, hd⟩, _⟩ := I.list hs
    obtain ⟨as, hr, hn⟩ := all_reads xs ds its l rv ih
    refine ⟨_, .list ho hc hd hr, fun z => ?_⟩
    rcases List.mem_cons.mp z with z | z
    · rw [← z, g1] at ho
      cases ho
      rw [c1] at hc
      injection hc with z2
      exact absurd z2 (by decide)
    · exact hn z
  | @tup a xs ds hs l _ ih =>
    intro u r
    cases r
    obtain ⟨its, rv, ⟨o, ho, hc, n, hd⟩, _⟩ := I.tuple hs
    obtain ⟨as, hr, hn⟩ := all_reads xs ds its l rv ih
    exact ⟨_, .tuple ho hc hd hr, hn⟩
  | @dct a kvs ds hs l _ ih =>
    intro u r
    cases r
    obtain ⟨_, ns, vs, rk, o, es, ep, ho, ⟨hc, _, _⟩, hd, _, hp, _⟩ := dk_of I.hok hs
    obtain ⟨h1, bs, h2, hn⟩ := kv_reads kvs ds es.toList vs l rk hp ih
    refine ⟨_, .dict ho hc hd h1 h2, fun z => ?_⟩
    rcases List.mem_cons.mp z with z | z
    · rw [← z] at ns
      simp at ns
    · exact hn (by simpa using z)
@[irreducible] def rReprQ (K : PySem.W.Frag) : List V → Hp → VK → Prop := fun xs H Q => ∃ (a : Addr) (d : PyData), xs = [.ref a] ∧ Dq K H (.ref a) d ∧ d.showable = true ∧ d.depth ≤ 60 ∧ d.shown.length ≤ sizeLine ∧ Q (.str d.shown) H
theorem call_reprQ {X : Cx} {k : Nat} (S : SysK X.K) (hr : Rm k X.A) : CallR X (.builtin "repr") (rReprQ X.K) := by
  intro pins s σ H xs us Q I r h
  unfold rReprQ at h
  obtain ⟨a, d, rfl, hd, hs, hdp, hsz, q⟩ := h
  cases r with
  | cons r1 r2 =>
    cases r2
    obtain ⟨as, rd, nm⟩ := Dq.reads I S hd _ r1
    obtain rfl : _ = Value.ref a := r1
    refine repr_of_reads' rd hs (fun _ => nm) hr.gd (by have := hr.rm.un; omega) (fun _ _ e => e) (fun h' u tk hk => ?_) hsz
    exact ⟨.str d.shown, H, I.kept hk, ⟨u, rfl⟩, q⟩
/-- small data, shown -/
structure ShD (d : PyData) : Prop where
  ok : d.showable = true
  len : d.shown.length ≤ 5000
  dep : d.depth ≤ 3
theorem shd_int {i : Int} (h1 : -(10 ^ 150) < i) (h2 : i < 10 ^ 150) : ShD (.int i) := by
  obtain ⟨_, h3, h4⟩ := okD_tells (.int i) (okI_of h1 h2)
  exact ⟨h3, Nat.le_trans h4 (by show 1921 ≤ 5000; decide), by show 0 ≤ 3; decide⟩
theorem shd_list {ds : List PyData} (h : ∀ d ∈ ds, ShD d) (hl : ds.length ≤ 100) : PyData.showableAll ds = true ∧ PyData.depthAll ds ≤ 3 ∧ ((PyData.shownAll ds).map (·.length)).sum ≤ 5000 * ds.length := by
  induction ds with
  | nil => exact ⟨rfl, by show 0 ≤ 3; decide, by show 0 ≤ 0; decide⟩
  | cons d r ih =>
    obtain ⟨h1, h2, h3⟩ := ih (fun x hx => h x (List.mem_cons_of_mem _ hx)) (by simp at hl; omega)
    obtain ⟨g1, g2, g3⟩ := h d List.mem_cons_self
    refine ⟨?_, ?_, ?_⟩
    · show (d.showable && PyData.showableAll r) = true
      rw [g1, h1]
      rfl
    · show max d.depth (PyData.depthAll r) ≤ 3
      omega
    · show d.shown.length + ((PyData.shownAll r).map (·.length)).sum ≤ 5000 * (r.length + 1)
      omega
theorem rq_list {K : PySem.W.Frag} {H : Hp} {a : Addr} {ds : List PyData} {Q : VK} (h : Dq K H (.ref a) (.list ds)) (hs : ∀ d ∈ ds, ShD d) (hl : ds.length ≤ 100) (q : Q (.str (PyData.shown (.list ds))) H) : rReprQ K [.ref a] H Q := by
  unfold rReprQ
  obtain ⟨h1, h2, h3⟩ := shd_list hs hl
  refine ⟨a, _, rfl, h, h1, ?_, ?_, q⟩
  · show PyData.depthAll ds + 1 ≤ 60
    omega
  · have e := listText_len_le (PyData.shownAll ds)
    rw [PyData.shownAll_length] at e
    show (listText (PyData.shownAll ds)).length ≤ sizeLine
    rw [sizeLine_eq]
    omega
end L3
set_option Elab.async false
set_option linter.all false
set_option maxRecDepth 100000
set_option maxHeartbeats 4000000
namespace Toy
open PySem PySem.Spec PyProof.Rows L2 L3
def top (i : Nat) : Stmt := PySem.Challenge.pw_shortgoings_k15_what_is_no_moment.main.body.getD i (.Pass ⟨0, 0, 0, 0⟩)
abbrev s_NoText_init : Stmt := inClass (top 10) 0
abbrev s_is_whole : Stmt := top 18
abbrev s_is_moment : Stmt := top 19
abbrev s_want_moment : Stmt := top 20
abbrev s_want_below : Stmt := top 21
abbrev s_moment_at : Stmt := top 22
abbrev s_clock_of : Stmt := top 23
abbrev s_show_moment : Stmt := top 24
abbrev s_are_figures : Stmt := top 25
abbrev s_number_of : Stmt := top 26
abbrev s_day_of : Stmt := top 27
abbrev s_read_moment : Stmt := top 28
abbrev s__law_pot : Stmt := top 30
abbrev s__law_take : Stmt := top 31
abbrev s__law_great : Stmt := top 32
abbrev s__law_no_number : Stmt := top 33
abbrev s__law_no_moment : Stmt := top 34
abbrev s__law_no_text : Stmt := top 35
abbrev s__law_asked : Stmt := top 36
abbrev s__law_refused : Stmt := top 37
abbrev s__law_good : Stmt := top 38
abbrev s_law : Stmt := top 39
theorem sc_NoText_init : FnScope ["self", "row"] ["self", "row"] (defScope s_NoText_init) := ⟨rfl, rfl, rfl, by decide +kernel, rfl, by decide +kernel, by decide +kernel⟩
theorem sc_is_whole : FnScope ["thing"] ["thing"] (defScope s_is_whole) := ⟨rfl, rfl, rfl, by decide +kernel, rfl, by decide +kernel, by decide +kernel⟩
theorem sc_is_moment : FnScope ["thing"] ["thing"] (defScope s_is_moment) := ⟨rfl, rfl, rfl, by decide +kernel, rfl, by decide +kernel, by decide +kernel⟩
theorem sc_want_moment : FnScope ["thing"] ["thing"] (defScope s_want_moment) := ⟨rfl, rfl, rfl, by decide +kernel, rfl, by decide +kernel, by decide +kernel⟩
theorem sc_want_below : FnScope ["thing", "many"] ["thing", "many"] (defScope s_want_below) := ⟨rfl, rfl, rfl, by decide +kernel, rfl, by decide +kernel, by decide +kernel⟩
theorem sc_moment_at : FnScope ["day", "hour", "minute"] ["day", "hour", "minute"] (defScope s_moment_at) := ⟨rfl, rfl, rfl, by decide +kernel, rfl, by decide +kernel, by decide +kernel⟩
theorem sc_clock_of : FnScope ["moment"] ["moment"] (defScope s_clock_of) := ⟨rfl, rfl, rfl, by decide +kernel, rfl, by decide +kernel, by decide +kernel⟩
theorem sc_show_moment : FnScope ["moment", "day", "hour", "minute", "text"] ["moment"] (defScope s_show_moment) := ⟨rfl, rfl, rfl, by decide +kernel, rfl, by decide +kernel, by decide +kernel⟩
theorem sc_are_figures : FnScope ["word", "sign"] ["word"] (defScope s_are_figures) := ⟨rfl, rfl, rfl, by decide +kernel, rfl, by decide +kernel, by decide +kernel⟩
theorem sc_number_of : FnScope ["word"] ["word"] (defScope s_number_of) := ⟨rfl, rfl, rfl, by decide +kernel, rfl, by decide +kernel, by decide +kernel⟩
theorem sc_day_of : FnScope ["word", "day"] ["word"] (defScope s_day_of) := ⟨rfl, rfl, rfl, by decide +kernel, rfl, by decide +kernel, by decide +kernel⟩
theorem sc_read_moment : FnScope ["text", "head", "blank", "clock", "day", "hour", "colon", "minute"] ["text"] (defScope s_read_moment) := ⟨rfl, rfl, rfl, by decide +kernel, rfl, by decide +kernel, by decide +kernel⟩
theorem sc__law_pot : FnScope ["_law_script", "_law_k", "_law_cell"] ["_law_script", "_law_k"] (defScope s__law_pot) := ⟨rfl, rfl, rfl, by decide +kernel, rfl, by decide +kernel, by decide +kernel⟩
theorem sc__law_take : FnScope ["_law_pot_here", "_law_many", "_law_digit"] ["_law_pot_here", "_law_many"] (defScope s__law_take) := ⟨rfl, rfl, rfl, by decide +kernel, rfl, by decide +kernel, by decide +kernel⟩
theorem sc__law_great : FnScope ["_law_pot_here", "_law_bound", "_law_found", "_law_k"] ["_law_pot_here", "_law_bound"] (defScope s__law_great) := ⟨rfl, rfl, rfl, by decide +kernel, rfl, by decide +kernel, by decide +kernel⟩
theorem sc__law_no_number : FnScope ["_law_pot_here", "_law_most", "_law_way", "_law_far"] ["_law_pot_here", "_law_most"] (defScope s__law_no_number) := ⟨rfl, rfl, rfl, by decide +kernel, rfl, by decide +kernel, by decide +kernel⟩
theorem sc__law_no_moment : FnScope ["_law_pot_here", "_law_way", "_law_far"] ["_law_pot_here"] (defScope s__law_no_moment) := ⟨rfl, rfl, rfl, by decide +kernel, rfl, by decide +kernel, by decide +kernel⟩
theorem sc__law_no_text : FnScope ["_law_pot_here"] ["_law_pot_here"] (defScope s__law_no_text) := ⟨rfl, rfl, rfl, by decide +kernel, rfl, by decide +kernel, by decide +kernel⟩
theorem sc__law_asked : FnScope ["_law_way", "_law_things"] ["_law_way", "_law_things"] (defScope s__law_asked) := ⟨rfl, rfl, rfl, by decide +kernel, rfl, by decide +kernel, by decide +kernel⟩
theorem sc__law_refused : FnScope ["_law_way", "_law_things", "_law_shown", "_law_found", "e", "_law_strange"] ["_law_way", "_law_things"] (defScope s__law_refused) := ⟨rfl, rfl, rfl, by decide +kernel, rfl, by decide +kernel, by decide +kernel⟩
theorem sc__law_good : FnScope ["_law_date", "_law_hand", "_law_left", "_law_spot"] ["_law_date", "_law_hand", "_law_left"] (defScope s__law_good) := ⟨rfl, rfl, rfl, by decide +kernel, rfl, by decide +kernel, by decide +kernel⟩
theorem sc_law : FnScope ["_law_script", "_law_k", "_law_pot_here", "_law_wrong", "_law_is_far", "_law_date", "_law_hand", "_law_left", "_law_things", "_law_way"] ["_law_script"] (defScope s_law) := ⟨rfl, rfl, rfl, by decide +kernel, rfl, by decide +kernel, by decide +kernel⟩
structure Env (K : PySem.W.Frag) (mg : Str → Option Value) : Prop where
  g_is_whole : mg "is_whole" = some (.ref (He.ga K "is_whole"))
  g_is_moment : mg "is_moment" = some (.ref (He.ga K "is_moment"))
  g_want_moment : mg "want_moment" = some (.ref (He.ga K "want_moment"))
  g_want_below : mg "want_below" = some (.ref (He.ga K "want_below"))
  g_moment_at : mg "moment_at" = some (.ref (He.ga K "moment_at"))
  g_clock_of : mg "clock_of" = some (.ref (He.ga K "clock_of"))
  g_show_moment : mg "show_moment" = some (.ref (He.ga K "show_moment"))
  g_are_figures : mg "are_figures" = some (.ref (He.ga K "are_figures"))
  g_number_of : mg "number_of" = some (.ref (He.ga K "number_of"))
  g_day_of : mg "day_of" = some (.ref (He.ga K "day_of"))
  g_read_moment : mg "read_moment" = some (.ref (He.ga K "read_moment"))
  g__law_pot : mg "_law_pot" = some (.ref (He.ga K "_law_pot"))
  g__law_take : mg "_law_take" = some (.ref (He.ga K "_law_take"))
  g__law_great : mg "_law_great" = some (.ref (He.ga K "_law_great"))
  g__law_no_number : mg "_law_no_number" = some (.ref (He.ga K "_law_no_number"))
  g__law_no_moment : mg "_law_no_moment" = some (.ref (He.ga K "_law_no_moment"))
  g__law_no_text : mg "_law_no_text" = some (.ref (He.ga K "_law_no_text"))
  g__law_asked : mg "_law_asked" = some (.ref (He.ga K "_law_asked"))
  g__law_refused : mg "_law_refused" = some (.ref (He.ga K "_law_refused"))
  g__law_good : mg "_law_good" = some (.ref (He.ga K "_law_good"))
  g_law : mg "law" = some (.ref (He.ga K "law"))
  v_HOUR : ∃ u, mg "HOUR" = some u ∧ RelV (.int (60)) u
  v_DAY : ∃ u, mg "DAY" = some u ∧ RelV (.int (1440)) u
  v_HOURS : ∃ u, mg "HOURS" = some u ∧ RelV (.int (24)) u
  v_FIGURES : ∃ u, mg "FIGURES" = some u ∧ RelV (.str "0123456789") u
  v_COLON : ∃ u, mg "COLON" = some u ∧ RelV (.str ":") u
  v_BLANK : ∃ u, mg "BLANK" = some u ∧ RelV (.str " ") u
  n_ValueError : mg "ValueError" = none
  n_all : mg "all" = none
  n_bool : mg "bool" = none
  n_divmod : mg "divmod" = none
  n_int : mg "int" = none
  n_isinstance : mg "isinstance" = none
  n_len : mg "len" = none
  n_max : mg "max" = none
  n_min : mg "min" = none
  n_range : mg "range" = none
  n_repr : mg "repr" = none
  n_str : mg "str" = none
  g_GoingError : mg "GoingError" = some (.ref (He.ga K "GoingError"))
  x_GoingError : Exo K (He.ga K "GoingError") bmV "ValueError.__new__"
  g_LackError : mg "LackError" = some (.ref (He.ga K "LackError"))
  x_LackError : Exo K (He.ga K "LackError") bmL "LookupError.__new__"
  g_BookError : mg "BookError" = some (.ref (He.ga K "BookError"))
  x_BookError : Exo K (He.ga K "BookError") bmR "RuntimeError.__new__"
  g_NoTime : mg "NoTime" = some (.ref (He.ga K "NoTime"))
  x_NoTime : Exo K (He.ga K "NoTime") bmV "ValueError.__new__"
  g_NoPiece : mg "NoPiece" = some (.ref (He.ga K "NoPiece"))
  x_NoPiece : Exo K (He.ga K "NoPiece") bmV "ValueError.__new__"
  g_NoDays : mg "NoDays" = some (.ref (He.ga K "NoDays"))
  x_NoDays : Exo K (He.ga K "NoDays") bmV "ValueError.__new__"
  g_NoCard : mg "NoCard" = some (.ref (He.ga K "NoCard"))
  x_NoCard : Exo K (He.ga K "NoCard") bmV "ValueError.__new__"
  g_NoName : mg "NoName" = some (.ref (He.ga K "NoName"))
  x_NoName : Exo K (He.ga K "NoName") bmV "ValueError.__new__"
  g_NoRow : mg "NoRow" = some (.ref (He.ga K "NoRow"))
  x_NoRow : Exo K (He.ga K "NoRow") bmV "ValueError.__new__"
  g_NoText : mg "NoText" = some (.ref (He.ga K "NoText"))
  sys : SysK K
  xc_NoTime : ExcC K (He.ga K "NoTime")
  kit_NoTime_GoingError : PySem.W.kitOne K (.ref (He.ga K "NoTime")) (.ref (He.ga K "GoingError")) = some true
  kit_NoTime_LackError : PySem.W.kitOne K (.ref (He.ga K "NoTime")) (.ref (He.ga K "LackError")) = some false
  kit_NoTime_BookError : PySem.W.kitOne K (.ref (He.ga K "NoTime")) (.ref (He.ga K "BookError")) = some false
  kit_NoTime_NoTime : PySem.W.kitOne K (.ref (He.ga K "NoTime")) (.ref (He.ga K "NoTime")) = some true
  kit_NoTime_NoPiece : PySem.W.kitOne K (.ref (He.ga K "NoTime")) (.ref (He.ga K "NoPiece")) = some false
  kit_NoTime_NoDays : PySem.W.kitOne K (.ref (He.ga K "NoTime")) (.ref (He.ga K "NoDays")) = some false
  kit_NoTime_NoCard : PySem.W.kitOne K (.ref (He.ga K "NoTime")) (.ref (He.ga K "NoCard")) = some false
  kit_NoTime_NoName : PySem.W.kitOne K (.ref (He.ga K "NoTime")) (.ref (He.ga K "NoName")) = some false
  kit_NoTime_NoRow : PySem.W.kitOne K (.ref (He.ga K "NoTime")) (.ref (He.ga K "NoRow")) = some false
  kit_NoTime_NoText : PySem.W.kitOne K (.ref (He.ga K "NoTime")) (.ref (He.ga K "NoText")) = some false
  kit_NoTime_ValueError : PySem.W.kitOne K (.ref (He.ga K "NoTime")) (.type "ValueError") = some true
  kit_NoTime_LookupError : PySem.W.kitOne K (.ref (He.ga K "NoTime")) (.type "LookupError") = some false
  kit_NoTime_RuntimeError : PySem.W.kitOne K (.ref (He.ga K "NoTime")) (.type "RuntimeError") = some false
  exm_NoTime : PySem.W.exmAny K (.ref (He.ga K "NoTime")) [.ref (He.ga K "GoingError"), .ref (He.ga K "LackError"), .ref (He.ga K "BookError")] = some true
  f_NoText_init : ∃ fd, FunD K "__init__" "NoText.__init__" (defArgs s_NoText_init) (defBody s_NoText_init) (defScope s_NoText_init) [] [] (He.ma K (He.ga K "NoText") "__init__") fd
  f_is_whole : ∃ fd, FunD K "is_whole" "is_whole" (defArgs s_is_whole) (defBody s_is_whole) (defScope s_is_whole) [] [] (He.ga K "is_whole") fd
  f_is_moment : ∃ fd, FunD K "is_moment" "is_moment" (defArgs s_is_moment) (defBody s_is_moment) (defScope s_is_moment) [] [] (He.ga K "is_moment") fd
  f_want_moment : ∃ fd, FunD K "want_moment" "want_moment" (defArgs s_want_moment) (defBody s_want_moment) (defScope s_want_moment) [] [] (He.ga K "want_moment") fd
  f_want_below : ∃ fd, FunD K "want_below" "want_below" (defArgs s_want_below) (defBody s_want_below) (defScope s_want_below) [] [] (He.ga K "want_below") fd
  f_moment_at : ∃ fd, FunD K "moment_at" "moment_at" (defArgs s_moment_at) (defBody s_moment_at) (defScope s_moment_at) [.int (0), .int (0), .int (0)] [] (He.ga K "moment_at") fd
  f_clock_of : ∃ fd, FunD K "clock_of" "clock_of" (defArgs s_clock_of) (defBody s_clock_of) (defScope s_clock_of) [] [] (He.ga K "clock_of") fd
  f_show_moment : ∃ fd, FunD K "show_moment" "show_moment" (defArgs s_show_moment) (defBody s_show_moment) (defScope s_show_moment) [] [] (He.ga K "show_moment") fd
  f_are_figures : ∃ fd, FunD K "are_figures" "are_figures" (defArgs s_are_figures) (defBody s_are_figures) (defScope s_are_figures) [] [] (He.ga K "are_figures") fd
  f_number_of : ∃ fd, FunD K "number_of" "number_of" (defArgs s_number_of) (defBody s_number_of) (defScope s_number_of) [] [] (He.ga K "number_of") fd
  f_day_of : ∃ fd, FunD K "day_of" "day_of" (defArgs s_day_of) (defBody s_day_of) (defScope s_day_of) [] [] (He.ga K "day_of") fd
  f_read_moment : ∃ fd, FunD K "read_moment" "read_moment" (defArgs s_read_moment) (defBody s_read_moment) (defScope s_read_moment) [] [] (He.ga K "read_moment") fd
  f__law_pot : ∃ fd, FunD K "_law_pot" "_law_pot" (defArgs s__law_pot) (defBody s__law_pot) (defScope s__law_pot) [] [] (He.ga K "_law_pot") fd
  f__law_take : ∃ fd, FunD K "_law_take" "_law_take" (defArgs s__law_take) (defBody s__law_take) (defScope s__law_take) [] [] (He.ga K "_law_take") fd
  f__law_great : ∃ fd, FunD K "_law_great" "_law_great" (defArgs s__law_great) (defBody s__law_great) (defScope s__law_great) [] [] (He.ga K "_law_great") fd
  f__law_no_number : ∃ fd, FunD K "_law_no_number" "_law_no_number" (defArgs s__law_no_number) (defBody s__law_no_number) (defScope s__law_no_number) [] [] (He.ga K "_law_no_number") fd
  f__law_no_moment : ∃ fd, FunD K "_law_no_moment" "_law_no_moment" (defArgs s__law_no_moment) (defBody s__law_no_moment) (defScope s__law_no_moment) [] [] (He.ga K "_law_no_moment") fd
  f__law_no_text : ∃ fd, FunD K "_law_no_text" "_law_no_text" (defArgs s__law_no_text) (defBody s__law_no_text) (defScope s__law_no_text) [] [] (He.ga K "_law_no_text") fd
  f__law_asked : ∃ fd, FunD K "_law_asked" "_law_asked" (defArgs s__law_asked) (defBody s__law_asked) (defScope s__law_asked) [] [] (He.ga K "_law_asked") fd
  f__law_refused : ∃ fd, FunD K "_law_refused" "_law_refused" (defArgs s__law_refused) (defBody s__law_refused) (defScope s__law_refused) [] [] (He.ga K "_law_refused") fd
  f__law_good : ∃ fd, FunD K "_law_good" "_law_good" (defArgs s__law_good) (defBody s__law_good) (defScope s__law_good) [] [] (He.ga K "_law_good") fd
  f_law : ∃ fd, FunD K "law" "law" (defArgs s_law) (defBody s_law) (defScope s_law) [] [] (He.ga K "law") fd
end Toy
namespace Toy
open PySem PySem.Spec PyProof.Rows L2 L3
theorem Env.k_NoText_init {K : PySem.W.Frag} {mg : Str → Option Value} (T : Env K mg) : PySem.W.keepIn K (.ref (He.ma K (He.ga K "NoText") "__init__")) = true := let ⟨_, F⟩ := T.f_NoText_init; F.kp
theorem Env.k_is_whole {K : PySem.W.Frag} {mg : Str → Option Value} (T : Env K mg) : PySem.W.keepIn K (.ref (He.ga K "is_whole")) = true := let ⟨_, F⟩ := T.f_is_whole; F.kp
theorem Env.k_is_moment {K : PySem.W.Frag} {mg : Str → Option Value} (T : Env K mg) : PySem.W.keepIn K (.ref (He.ga K "is_moment")) = true := let ⟨_, F⟩ := T.f_is_moment; F.kp
theorem Env.k_want_moment {K : PySem.W.Frag} {mg : Str → Option Value} (T : Env K mg) : PySem.W.keepIn K (.ref (He.ga K "want_moment")) = true := let ⟨_, F⟩ := T.f_want_moment; F.kp
theorem Env.k_want_below {K : PySem.W.Frag} {mg : Str → Option Value} (T : Env K mg) : PySem.W.keepIn K (.ref (He.ga K "want_below")) = true := let ⟨_, F⟩ := T.f_want_below; F.kp
theorem Env.k_moment_at {K : PySem.W.Frag} {mg : Str → Option Value} (T : Env K mg) : PySem.W.keepIn K (.ref (He.ga K "moment_at")) = true := let ⟨_, F⟩ := T.f_moment_at; F.kp
theorem Env.k_clock_of {K : PySem.W.Frag} {mg : Str → Option Value} (T : Env K mg) : PySem.W.keepIn K (.ref (He.ga K "clock_of")) = true := let ⟨_, F⟩ := T.f_clock_of; F.kp
theorem Env.k_show_moment {K : PySem.W.Frag} {mg : Str → Option Value} (T : Env K mg) : PySem.W.keepIn K (.ref (He.ga K "show_moment")) = true := let ⟨_, F⟩ := T.f_show_moment; F.kp
theorem Env.k_are_figures {K : PySem.W.Frag} {mg : Str → Option Value} (T : Env K mg) : PySem.W.keepIn K (.ref (He.ga K "are_figures")) = true := let ⟨_, F⟩ := T.f_are_figures; F.kp
theorem Env.k_number_of {K : PySem.W.Frag} {mg : Str → Option Value} (T : Env K mg) : PySem.W.keepIn K (.ref (He.ga K "number_of")) = true := let ⟨_, F⟩ := T.f_number_of; F.kp
theorem Env.k_day_of {K : PySem.W.Frag} {mg : Str → Option Value} (T : Env K mg) : PySem.W.keepIn K (.ref (He.ga K "day_of")) = true := let ⟨_, F⟩ := T.f_day_of; F.kp
theorem Env.k_read_moment {K : PySem.W.Frag} {mg : Str → Option Value} (T : Env K mg) : PySem.W.keepIn K (.ref (He.ga K "read_moment")) = true := let ⟨_, F⟩ := T.f_read_moment; F.kp
theorem Env.k__law_pot {K : PySem.W.Frag} {mg : Str → Option Value} (T : Env K mg) : PySem.W.keepIn K (.ref (He.ga K "_law_pot")) = true := let ⟨_, F⟩ := T.f__law_pot; F.kp
theorem Env.k__law_take {K : PySem.W.Frag} {mg : Str → Option Value} (T : Env K mg) : PySem.W.keepIn K (.ref (He.ga K "_law_take")) = true := let ⟨_, F⟩ := T.f__law_take; F.kp
theorem Env.k__law_great {K : PySem.W.Frag} {mg : Str → Option Value} (T : Env K mg) : PySem.W.keepIn K (.ref (He.ga K "_law_great")) = true := let ⟨_, F⟩ := T.f__law_great; F.kp
theorem Env.k__law_no_number {K : PySem.W.Frag} {mg : Str → Option Value} (T : Env K mg) : PySem.W.keepIn K (.ref (He.ga K "_law_no_number")) = true := let ⟨_, F⟩ := T.f__law_no_number; F.kp
theorem Env.k__law_no_moment {K : PySem.W.Frag} {mg : Str → Option Value} (T : Env K mg) : PySem.W.keepIn K (.ref (He.ga K "_law_no_moment")) = true := let ⟨_, F⟩ := T.f__law_no_moment; F.kp
theorem Env.k__law_no_text {K : PySem.W.Frag} {mg : Str → Option Value} (T : Env K mg) : PySem.W.keepIn K (.ref (He.ga K "_law_no_text")) = true := let ⟨_, F⟩ := T.f__law_no_text; F.kp
theorem Env.k__law_asked {K : PySem.W.Frag} {mg : Str → Option Value} (T : Env K mg) : PySem.W.keepIn K (.ref (He.ga K "_law_asked")) = true := let ⟨_, F⟩ := T.f__law_asked; F.kp
theorem Env.k__law_refused {K : PySem.W.Frag} {mg : Str → Option Value} (T : Env K mg) : PySem.W.keepIn K (.ref (He.ga K "_law_refused")) = true := let ⟨_, F⟩ := T.f__law_refused; F.kp
theorem Env.k__law_good {K : PySem.W.Frag} {mg : Str → Option Value} (T : Env K mg) : PySem.W.keepIn K (.ref (He.ga K "_law_good")) = true := let ⟨_, F⟩ := T.f__law_good; F.kp
theorem Env.k_law {K : PySem.W.Frag} {mg : Str → Option Value} (T : Env K mg) : PySem.W.keepIn K (.ref (He.ga K "law")) = true := let ⟨_, F⟩ := T.f_law; F.kp
section
def sp_is_whole (K : PySem.W.Frag) : Sp := fun vs H Q _ => ∃ x, vs = [x] ∧ Cl K H x ∧ Q (.bl (isW x)) H
theorem fb_is_whole {P : Program} {w : World} {K : PySem.W.Frag} {mg : Str → Option Value} {base : Heap} (T : Env K mg) : ∃ fd, FunD K "is_whole" "is_whole" (defArgs s_is_whole) (defBody s_is_whole) (defScope s_is_whole) [] [] (He.ga K "is_whole") fd ∧ Fb P w K mg base 1 (He.ga K "is_whole") fd ["thing"] (sp_is_whole K) := by
  obtain ⟨fd, F⟩ := T.f_is_whole
  refine ⟨fd, F, fb_of F sc_is_whole (fun vs H Q E h => ?_) (fun cdv A outer s H vs Q E hr h => ?_)⟩
  · obtain ⟨x, rfl, _⟩ := h
    rfl
  · obtain ⟨x, rfl, ⟨t, b, c, ty, h1, h2, e⟩, q⟩ := h
    refine ⟨_, (pss_one (ps_ret (pe_and (pe_callB call_isi (by rfl) T.n_isinstance (by decide +kernel) (pa_cons (pv 0) (pa_cons (pe_bltn (v := .ty "int") (by rfl) T.n_int (by decide +kernel) rfl) pa_nil))) (pe_one (pe_not (pe_callB call_isi (by rfl) T.n_isinstance (by decide +kernel) (pa_cons (pv 0) (pa_cons (pe_bltn (v := .ty "bool") (by rfl) T.n_bool (by decide +kernel) rfl) pa_nil)))))))), ?_⟩
    refine ⟨x, rfl, x, .ty "int", t, _, b, rfl, .ty "int", ty, h1, b, rfl, ?_⟩
    rw [e] at q
    cases b with
    | false => exact q
    | true => exact ⟨x, rfl, x, .ty "bool", t, _, c, rfl, .ty "bool", ty, h2, c, rfl, q⟩

theorem ok_is_whole {P : Program} {w : World} {K : PySem.W.Frag} {mg : Str → Option Value} {base : Heap} (T : Env K mg) : Fc P w K mg base 1 (He.ga K "is_whole") [] (sp_is_whole K) := by
  obtain ⟨fd, D, F⟩ := fb_is_whole T
  exact F.all (D.bindsN fun _ _ _ _ _ _ us hl => match us, hl with | [_], _ => rfl)
end
section
def sp_is_moment (K : PySem.W.Frag) : Sp := fun vs H Q _ => ∃ x, vs = [x] ∧ Cl K H x ∧ Q (.bl (isM x)) H
theorem fb_is_moment {P : Program} {w : World} {K : PySem.W.Frag} {mg : Str → Option Value} {base : Heap} (T : Env K mg) : ∃ fd, FunD K "is_moment" "is_moment" (defArgs s_is_moment) (defBody s_is_moment) (defScope s_is_moment) [] [] (He.ga K "is_moment") fd ∧ Fb P w K mg base 2 (He.ga K "is_moment") fd ["thing"] (sp_is_moment K) := by
  obtain ⟨fd, F⟩ := T.f_is_moment
  refine ⟨fd, F, fb_of F sc_is_moment (fun vs H Q E h => ?_) (fun cdv A outer s H vs Q E hr h => ?_)⟩
  · obtain ⟨x, rfl, _⟩ := h
    rfl
  · obtain ⟨x, rfl, cl, q⟩ := h
    refine ⟨_, (pss_one (ps_ret (pe_and (c_call (ok_is_whole T) (hr.mono (by decide)) T.g_is_whole T.k_is_whole takes0 (pa_cons (pv 0) pa_nil)) (pe_one (pe_cmpR op_ge (pv 0) pe_int (nomark _)))))), ?_⟩
    refine ⟨x, rfl, x, rfl, cl, isW x, rfl, ?_⟩
    cases x with
    | int i => exact ⟨_, rfl, i, 0, rfl, rfl, q⟩
    | _ => exact q

theorem ok_is_moment {P : Program} {w : World} {K : PySem.W.Frag} {mg : Str → Option Value} {base : Heap} (T : Env K mg) : Fc P w K mg base 2 (He.ga K "is_moment") [] (sp_is_moment K) := by
  obtain ⟨fd, D, F⟩ := fb_is_moment T
  exact F.all (D.bindsN fun _ _ _ _ _ _ us hl => match us, hl with | [_], _ => rfl)
end
section
def sp_want_moment (K : PySem.W.Frag) : Sp := fun vs H Q E => ∃ x, vs = [x] ∧ Cl K H x ∧ (isM x = true → Q .non H) ∧ (isM x = false → E (.ref (He.ga K "NoTime")) none H)
theorem fb_want_moment {P : Program} {w : World} {K : PySem.W.Frag} {mg : Str → Option Value} {base : Heap} (T : Env K mg) : ∃ fd, FunD K "want_moment" "want_moment" (defArgs s_want_moment) (defBody s_want_moment) (defScope s_want_moment) [] [] (He.ga K "want_moment") fd ∧ Fb P w K mg base 3 (He.ga K "want_moment") fd ["thing"] (sp_want_moment K) := by
  obtain ⟨fd, F⟩ := T.f_want_moment
  refine ⟨fd, F, fb_of F sc_want_moment (fun vs H Q E h => ?_) (fun cdv A outer s H vs Q E hr h => ?_)⟩
  · obtain ⟨x, rfl, _⟩ := h
    rfl
  · obtain ⟨x, rfl, cl, q, qe⟩ := h
    refine ⟨_, (pss_one (ps_if (pt_not (pt_val (c_call (ok_is_moment T) (hr.mono (by decide)) T.g_is_moment T.k_is_moment (takes_of rfl rfl rfl rfl) (pa_cons (pv 0) pa_nil))))
      (pss_one (ps_raise rfl (takes_of rfl rfl rfl rfl) (pmk_own PySem.F.excBase_ValueError T.x_NoTime.x T.g_NoTime T.x_NoTime.kp (raises_own T.x_NoTime.sub T.x_NoTime.ty) rfl)))
      pss_nil)), ?_⟩
    refine ⟨x, rfl, x, rfl, cl, isM x, rfl, ?_⟩
    cases e : isM x with
    | true => exact q e
    | false => exact qe e

theorem ok_want_moment {P : Program} {w : World} {K : PySem.W.Frag} {mg : Str → Option Value} {base : Heap} (T : Env K mg) : Fc P w K mg base 3 (He.ga K "want_moment") [] (sp_want_moment K) := by
  obtain ⟨fd, D, F⟩ := fb_want_moment T
  exact F.all (D.bindsN fun _ _ _ _ _ _ us hl => match us, hl with | [_], _ => rfl)
end
section
def sp_want_below (K : PySem.W.Frag) : Sp := fun vs H Q E => ∃ x n, vs = [x, .int n] ∧ Cl K H x ∧ (isB n x = true → Q .non H) ∧ (isB n x = false → E (.ref (He.ga K "NoTime")) none H)
theorem fb_want_below {P : Program} {w : World} {K : PySem.W.Frag} {mg : Str → Option Value} {base : Heap} (T : Env K mg) : ∃ fd, FunD K "want_below" "want_below" (defArgs s_want_below) (defBody s_want_below) (defScope s_want_below) [] [] (He.ga K "want_below") fd ∧ Fb P w K mg base 4 (He.ga K "want_below") fd ["thing", "many"] (sp_want_below K) := by
  obtain ⟨fd, F⟩ := T.f_want_below
  refine ⟨fd, F, fb_of F sc_want_below (fun vs H Q E h => ?_) (fun cdv A outer s H vs Q E hr h => ?_)⟩
  · obtain ⟨x, n, rfl, _⟩ := h
    rfl
  · obtain ⟨x, n, rfl, cl, q, qe⟩ := h
    refine ⟨_, (pss_cons (ps_expr (c_call (ok_want_moment T) (hr.mono (by decide)) T.g_want_moment T.k_want_moment (takes_of rfl rfl rfl rfl) (pa_cons (pv 0) pa_nil)))
      (pss_one (ps_if (pt_cmpR op_ge (pv 0) (pv 1) (nomark _))
      (pss_one (ps_raise rfl (takes_of rfl rfl rfl rfl) (pmk_own PySem.F.excBase_ValueError T.x_NoTime.x T.g_NoTime T.x_NoTime.kp (raises_own T.x_NoTime.sub T.x_NoTime.ty) rfl)))
      pss_nil))), ?_⟩
    refine ⟨x, rfl, x, rfl, cl, fun e => ?_, fun e => ?_⟩
    · obtain ⟨i, rfl, hi⟩ := isM_w e
      refine ⟨_, rfl, _, rfl, i, n, rfl, rfl, _, rfl, ite2 (fun c => ?_) (fun c => ?_)⟩
      · have c2 : n ≤ i := of_decide_eq_true c
        exact qe (show (decide (0 ≤ i) && decide (i < n)) = false by rw [decide_eq_false (show ¬ i < n by omega), Bool.and_false])
      · have c2 : ¬ n ≤ i := fun z => c (decide_eq_true z)
        exact q (show (decide (0 ≤ i) && decide (i < n)) = true by rw [decide_eq_true hi, decide_eq_true (show i < n by omega)]; rfl)
    · refine qe ?_
      cases x with
      | int i => exact (show (decide (0 ≤ i) && decide (i < n)) = false by rw [show decide (0 ≤ i) = false from e]; rfl)
      | _ => rfl

theorem ok_want_below {P : Program} {w : World} {K : PySem.W.Frag} {mg : Str → Option Value} {base : Heap} (T : Env K mg) : Fc P w K mg base 4 (He.ga K "want_below") [] (sp_want_below K) := by
  obtain ⟨fd, D, F⟩ := fb_want_below T
  exact F.all (D.bindsN fun _ _ _ _ _ _ us hl => match us, hl with | [_, _], _ => rfl)
end
section
/-- what moment_at tells -/
def isMA (a b c : V) : Bool := isM a && (isB 24 b && isB 60 c)
def sp_moment_at (K : PySem.W.Frag) : Sp := fun vs H Q E => ∃ a b c, vs = [a, b, c] ∧ Cl K H a ∧ Cl K H b ∧ Cl K H c ∧ (∀ d h m : Int, a = .int d → b = .int h → c = .int m → isMA a b c = true → Q (.int (d * 1440 + h * 60 + m)) H) ∧ (isMA a b c = false → E (.ref (He.ga K "NoTime")) none H)
theorem fb_moment_at {P : Program} {w : World} {K : PySem.W.Frag} {mg : Str → Option Value} {base : Heap} (T : Env K mg) : ∃ fd, FunD K "moment_at" "moment_at" (defArgs s_moment_at) (defBody s_moment_at) (defScope s_moment_at) [.int (0), .int (0), .int (0)] [] (He.ga K "moment_at") fd ∧ Fb P w K mg base 5 (He.ga K "moment_at") fd ["day", "hour", "minute"] (sp_moment_at K) := by
  obtain ⟨fd, F⟩ := T.f_moment_at
  refine ⟨fd, F, fb_of F sc_moment_at (fun vs H Q E h => ?_) (fun cdv A outer s H vs Q E hr h => ?_)⟩
  · obtain ⟨a, b, c, rfl, _⟩ := h
    rfl
  · obtain ⟨a, b, c, rfl, ca, cb, cc, q, qe⟩ := h
    refine ⟨_, (pss_cons (ps_expr (c_call (ok_want_moment T) (hr.mono (by decide)) T.g_want_moment T.k_want_moment (takes_of rfl rfl rfl rfl) (pa_cons (pv 0) pa_nil)))
      (pss_cons (ps_expr (c_call (ok_want_below T) (hr.mono (by decide)) T.g_want_below T.k_want_below (takes_of rfl rfl rfl rfl) (pa_cons (pv 1) (pa_cons (pe_k T.v_HOURS) pa_nil))))
      (pss_cons (ps_expr (c_call (ok_want_below T) (hr.mono (by decide)) T.g_want_below T.k_want_below (takes_of rfl rfl rfl rfl) (pa_cons (pv 2) (pa_cons (pe_k T.v_HOUR) pa_nil))))
      (pss_one (ps_ret (pe_op op_add (pe_op op_add (pe_op op_mul (pv 0) (pe_k T.v_DAY)) (pe_op op_mul (pv 1) (pe_k T.v_HOUR))) (pv 2))))))), ?_⟩
    refine ⟨a, rfl, a, rfl, ca, fun ea => ?_, fun ea => qe (by unfold isMA; rw [ea]; rfl)⟩
    refine ⟨b, rfl, b, 24, rfl, cb, fun eb => ?_, fun eb => qe (by unfold isMA; rw [ea, eb]; rfl)⟩
    refine ⟨c, rfl, c, 60, rfl, cc, fun ec => ?_, fun ec => qe (by unfold isMA; rw [ea, eb, ec]; rfl)⟩
    cases a with
    | int d =>
      cases b with
      | int h =>
        cases c with
        | int m =>
          refine ⟨_, rfl, _, _, rfl, rfl, .inr (by decide), _, rfl, _, _, rfl, rfl, .inr (by decide), _, _, rfl, rfl, _, rfl, _, _, rfl, rfl, ?_⟩
          exact q d h m rfl rfl rfl (by unfold isMA; rw [ea, eb, ec]; rfl)
        | _ => cases ec
      | _ => cases eb
    | _ => cases ea
theorem ma_good {K : PySem.W.Frag} {H : Hp} {Q : VK} {E : XK} {d h m : Int} (d0 : 0 ≤ d) (h0 : 0 ≤ h) (h1 : h < 24) (m0 : 0 ≤ m) (m1 : m < 60) (q : Q (.int (d * 1440 + h * 60 + m)) H) : sp_moment_at K [.int d, .int h, .int m] H Q E := by
  have e : isMA (.int d) (.int h) (.int m) = true := by
    show (decide (0 ≤ d) && ((decide (0 ≤ h) && decide (h < 24)) && (decide (0 ≤ m) && decide (m < 60)))) = true
    rw [decide_eq_true d0, decide_eq_true h0, decide_eq_true h1, decide_eq_true m0, decide_eq_true m1]
    rfl
  exact ⟨_, _, _, rfl, cl_int _, cl_int _, cl_int _, fun _ _ _ e1 e2 e3 _ => by cases e1; cases e2; cases e3; exact q, fun z => absurd (e.symm.trans z) Bool.noConfusion⟩

theorem ok_moment_at {P : Program} {w : World} {K : PySem.W.Frag} {mg : Str → Option Value} {base : Heap} (T : Env K mg) : Fc P w K mg base 5 (He.ga K "moment_at") [] (fun vs H Q E => vs.length = 3 + ([] : List Str).length ∧ sp_moment_at K (pick [.inl 0, .inl 1, .inl 2] vs [.int (0), .int (0), .int (0)]) H Q E) := by
  obtain ⟨fd, D, F⟩ := fb_moment_at T
  exact Fb.shape D F 3 [] (fun us its => pick [.inl 0, .inl 1, .inl 2] us its) (by decide) (fun r1 r2 => pick_vals _ r1 r2) (fun T kV doc pm an cdv ct us ws its h1 h2 h3 => match us, ws, its, h1, h2, h3 with | [_, _, _], [], [_, _, _], _, _, _ => ⟨_, rfl, rfl⟩)
theorem ok_moment_at_0_minute_hour_day {P : Program} {w : World} {K : PySem.W.Frag} {mg : Str → Option Value} {base : Heap} (T : Env K mg) : Fc P w K mg base 5 (He.ga K "moment_at") ["minute", "hour", "day"] (fun vs H Q E => vs.length = 0 + (["minute", "hour", "day"] : List Str).length ∧ sp_moment_at K (pick [.inl 2, .inl 1, .inl 0] vs [.int (0), .int (0), .int (0)]) H Q E) := by
  obtain ⟨fd, D, F⟩ := fb_moment_at T
  exact Fb.shape D F 0 ["minute", "hour", "day"] (fun us its => pick [.inl 2, .inl 1, .inl 0] us its) (by decide) (fun r1 r2 => pick_vals _ r1 r2) (fun T kV doc pm an cdv ct us ws its h1 h2 h3 => match us, ws, its, h1, h2, h3 with | [], [_, _, _], [_, _, _], _, _, _ => ⟨_, rfl, rfl⟩)
end
section
def clockV (m : Int) : List V := [.int (m / 1440), .int (m % 1440 / 60), .int (m % 60)]
def sp_clock_of (K : PySem.W.Frag) : Sp := fun vs H Q E => ∃ x, vs = [x] ∧ Cl K H x ∧ (∀ m : Int, x = .int m → 0 ≤ m → ∀ p, H p = none → Q (.ref p) (upd H p (.tup (clockV m)))) ∧ (isM x = false → E (.ref (He.ga K "NoTime")) none H)
theorem fb_clock_of {P : Program} {w : World} {K : PySem.W.Frag} {mg : Str → Option Value} {base : Heap} (T : Env K mg) : ∃ fd, FunD K "clock_of" "clock_of" (defArgs s_clock_of) (defBody s_clock_of) (defScope s_clock_of) [] [] (He.ga K "clock_of") fd ∧ Fb P w K mg base 4 (He.ga K "clock_of") fd ["moment"] (sp_clock_of K) := by
  obtain ⟨fd, F⟩ := T.f_clock_of
  refine ⟨fd, F, fb_of F sc_clock_of (fun vs H Q E h => ?_) (fun cdv A outer s H vs Q E hr h => ?_)⟩
  · obtain ⟨x, rfl, _⟩ := h
    rfl
  · obtain ⟨x, rfl, cl, q, qe⟩ := h
    refine ⟨_, (pss_cons (ps_expr (c_call (ok_want_moment T) (hr.mono (by decide)) T.g_want_moment T.k_want_moment (takes_of rfl rfl rfl rfl) (pa_cons (pv 0) pa_nil)))
      (pss_one (ps_ret (pe_tup (pa_cons (pe_op op_fdiv (pv 0) (pe_k T.v_DAY)) (pa_cons (pe_op op_fdiv (pe_op op_mod (pv 0) (pe_k T.v_DAY)) (pe_k T.v_HOUR)) (pa_cons (pe_op op_mod (pv 0) (pe_k T.v_HOUR)) pa_nil))))))), ?_⟩
    refine ⟨x, rfl, x, rfl, cl, fun e => ?_, qe⟩
    obtain ⟨m, rfl, hm⟩ := isM_w e
    refine ⟨_, rfl, _, _, rfl, rfl, ⟨by decide, by decide⟩, _, rfl, _, _, rfl, rfl, (by show (0 : Int) < 1440; decide), _, _, rfl, rfl, ⟨by decide, by decide⟩, _, rfl, _, _, rfl, rfl, (by show (0 : Int) < 60; decide), by show 3 ≤ sizeLine; decide, fun p hp => ?_⟩
    exact q m rfl hm p hp
theorem co_good {K : PySem.W.Frag} {H : Hp} {Q : VK} {E : XK} {m : Nat} (q : ∀ p, H p = none → Q (.ref p) (upd H p (.tup (clockV m)))) : sp_clock_of K [.int m] H Q E :=
  ⟨_, rfl, cl_int _, fun k e _ => by
    have ek : k = m := by injection e with e; exact e.symm
    subst ek
    exact q, fun e => absurd e (by rw [show isM (.int m) = true from decide_eq_true (Int.natCast_nonneg m)]; decide)⟩

theorem ok_clock_of {P : Program} {w : World} {K : PySem.W.Frag} {mg : Str → Option Value} {base : Heap} (T : Env K mg) : Fc P w K mg base 4 (He.ga K "clock_of") [] (sp_clock_of K) := by
  obtain ⟨fd, D, F⟩ := fb_clock_of T
  exact F.all (D.bindsN fun _ _ _ _ _ _ us hl => match us, hl with | [_], _ => rfl)
end
section
def sp_show_moment (K : PySem.W.Frag) : Sp := fun vs H Q E => ∃ x, vs = [x] ∧ Cl K H x ∧ (∀ m : Nat, x = .int m → m < 10 ^ 200 ∧ ∀ H', Ex H H' → Q (.str (SX.S (Mo.shw m))) H') ∧ (isM x = false → E (.ref (He.ga K "NoTime")) none H)
theorem str_two : ∀ m : Nat, m < 60 → Txt.zfill (Str.ofString (toString ((m : Nat) : Int))) 2 = SX.S (Mo.two m) := by
  intro m h
  have all : ∀ m, m < 60 → TL.tl (Txt.zfill (Str.ofString (toString ((m : Nat) : Int))) 2) = Mo.two m := by decide +kernel
  exact TL.ext_tl (all m h)
theorem log_small {n : Nat} (h : n < 10 ^ 200) : ((n : Nat) : Int).natAbs.log2 < 1920 := log_of h
theorem fb_show_moment {P : Program} {w : World} {K : PySem.W.Frag} {mg : Str → Option Value} {base : Heap} (T : Env K mg) : ∃ fd, FunD K "show_moment" "show_moment" (defArgs s_show_moment) (defBody s_show_moment) (defScope s_show_moment) [] [] (He.ga K "show_moment") fd ∧ Fb P w K mg base 5 (He.ga K "show_moment") fd ["moment"] (sp_show_moment K) := by
  obtain ⟨fd, F⟩ := T.f_show_moment
  refine ⟨fd, F, fb_of F sc_show_moment (fun vs H Q E h => ?_) (fun cdv A outer s H vs Q E hr h => ?_)⟩
  · obtain ⟨x, rfl, _⟩ := h
    rfl
  · obtain ⟨x, rfl, cl, q, qe⟩ := h
    refine ⟨_, (pss_cons (ps_asg (c_call (ok_clock_of T) (hr.mono (by decide)) T.g_clock_of T.k_clock_of (takes_of rfl rfl rfl rfl) (pa_cons (pv 0) pa_nil)) (pg_tup (by rfl) (pgs_cons (pg_name (i := 1) sc_show_moment.nd rfl (Or.inl rfl)) (pgs_cons (pg_name (i := 2) sc_show_moment.nd rfl (Or.inl rfl)) (pgs_cons (pg_name (i := 3) sc_show_moment.nd rfl (Or.inl rfl)) pgs_nil)))))
      (pss_cons (ps_set (i := 4) sc_show_moment.nd rfl (Or.inl rfl) (pe_op op_add_str (pe_op op_add_str (pe_callTy call_str_int (by rfl) T.n_str (by decide +kernel) (pa_cons (pv 2) pa_nil)) (pe_k T.v_COLON)) (pe_bm PySem.F.plainAttrs_str PySem.F.slot_str_zfill PySem.F.type_str_zfill mt_zfill (pe_callTy call_str_int (by rfl) T.n_str (by decide +kernel) (pa_cons (pv 3) pa_nil)) (pa_cons pe_int pa_nil))))
      (pss_cons (ps_if (pt_cmpR op_eq (pv 1) pe_int (nomark _))
      (pss_one (ps_ret (pv 4)))
      pss_nil)
      (pss_one (ps_ret (pe_op op_add_str (pe_op op_add_str (pe_callTy call_str_int (by rfl) T.n_str (by decide +kernel) (pa_cons (pv 1) pa_nil)) (pe_k T.v_BLANK)) (pv 4))))))), ?_⟩
    refine ⟨x, rfl, x, rfl, cl, fun m e m0 t nt => ?_, qe⟩
    obtain ⟨m, rfl⟩ := Int.eq_ofNat_of_zero_le m0
    subst e
    obtain ⟨mb, q⟩ := q m rfl
    have X1 : Ex H (upd H t (.tup (clockV m))) := ex_new nt
    refine ⟨t, _, rfl, sq_tup upd_same, rfl, _, _, rfl, _, _, rfl, _, _, rfl, rfl, ?_⟩
    have e1 : ((m : Nat) : Int) / 1440 = ((m / 1440 : Nat) : Int) := by omega
    have e2 : ((m : Nat) : Int) % 1440 / 60 = ((m % 1440 / 60 : Nat) : Int) := by omega
    have e3 : ((m : Nat) : Int) % 60 = ((m % 60 : Nat) : Int) := by omega
    rw [e1, e2, e3]
    have l1 : (Mo.shw m).length ≤ 208 := Mo.shw_len (by decide) mb
    have l2 : (TL.numL (m % 1440 / 60)).length ≤ 2 := TL.numL_len (by decide) (by omega)
    have l3 : (TL.numL (m / 1440)).length ≤ 200 := TL.numL_len (by decide) (Nat.lt_of_le_of_lt (Nat.div_le_self _ _) mb)
    refine ⟨_, rfl, _, rfl, log_small (Nat.lt_of_le_of_lt (by omega) mb), ?_⟩
    rw [SX.num_S]
    have c1 : (SX.S (TL.numL (m % 1440 / 60)) ++ Str.ofString ":").length ≤ 1000 := by
      rw [TL.len_tl, TL.tl_append]
      simp only [List.length_append]
      have : (TL.tl (Str.ofString ":")).length = 1 := rfl
      show (TL.numL (m % 1440 / 60)).length + _ ≤ 1000
      omega
    refine ⟨_, _, rfl, rfl, Nat.le_of_lt (small_len (by have := SX.S_len (TL.numL (m % 1440 / 60)); have : (Str.ofString ":").length = 1 := rfl; omega)), ?_⟩
    refine ⟨_, rfl, _, rfl, log_small (Nat.lt_of_le_of_lt (Nat.mod_le _ _) mb), rfl, _, _, rfl, rfl, rfl, ?_⟩
    rw [show Txt.zfill (Str.ofString (toString ((m % 60 : Nat) : Int))) 2 = SX.S (Mo.two (m % 60)) from str_two _ (by omega)]
    refine ⟨_, _, rfl, rfl, Nat.le_of_lt (small_len (by have : (SX.S (Mo.two (m % 60))).length = 2 := rfl; omega)), ?_⟩
    have e4 : SX.S (TL.numL (m % 1440 / 60)) ++ Str.ofString ":" ++ SX.S (Mo.two (m % 60)) = SX.S (Mo.clk m) := by
      rw [show Str.ofString ":" = SX.S [58] from rfl, SX.S_cat, SX.S_cat]
      unfold Mo.clk
      simp
    rw [e4]
    have l4 : (Mo.clk m).length ≤ 5 := by
      unfold Mo.clk Mo.two
      simp
      omega
    refine ⟨_, rfl, rfl, _, rfl, ite2 (fun c => ?_) (fun c => ?_)⟩
    · have c2 : m / 1440 = 0 := by
        have := of_decide_eq_true c
        injection this with this
        omega
      refine ⟨_, rfl, ?_⟩
      have e5 : Mo.shw m = Mo.clk m := by unfold Mo.shw; rw [if_pos c2]
      rw [← e5]
      exact q _ X1
    · have c2 : ¬ m / 1440 = 0 := fun z => c (decide_eq_true (by rw [z]; rfl))
      refine ⟨_, rfl, _, rfl, log_small (Nat.lt_of_le_of_lt (Nat.div_le_self _ _) mb), ?_⟩
      rw [SX.num_S]
      refine ⟨_, _, rfl, rfl, Nat.le_of_lt (small_len (by have := SX.S_len (TL.numL (m / 1440)); have : (Str.ofString " ").length = 1 := rfl; omega)), ?_⟩
      rw [show Str.ofString " " = SX.S [32] from rfl, SX.S_cat]
      refine ⟨_, rfl, _, _, rfl, rfl, Nat.le_of_lt (small_len (by rw [SX.S_len, SX.S_len]; simp; omega)), ?_⟩
      rw [SX.S_cat]
      have e5 : Mo.shw m = TL.numL (m / 1440) ++ [32] ++ Mo.clk m := by unfold Mo.shw; rw [if_neg c2]; simp
      rw [← e5]
      exact q _ X1
theorem sm_good {K : PySem.W.Frag} {H : Hp} {Q : VK} {E : XK} {m : Nat} (mb : m < 10 ^ 200) (q : ∀ H', Ex H H' → Q (.str (SX.S (Mo.shw m))) H') : sp_show_moment K [.int m] H Q E :=
  ⟨_, rfl, cl_int _, fun k e => by
    have ek : k = m := by injection e with e; omega
    subst ek
    exact ⟨mb, q⟩, fun e => absurd e (by rw [show isM (.int m) = true from decide_eq_true (Int.natCast_nonneg m)]; decide)⟩

theorem ok_show_moment {P : Program} {w : World} {K : PySem.W.Frag} {mg : Str → Option Value} {base : Heap} (T : Env K mg) : Fc P w K mg base 5 (He.ga K "show_moment") [] (sp_show_moment K) := by
  obtain ⟨fd, D, F⟩ := fb_show_moment T
  exact F.all (D.bindsN fun _ _ _ _ _ _ us hl => match us, hl with | [_], _ => rfl)
end
section
theorem fig_in (c : Nat) : decide (c ∈ (Str.ofString "0123456789").cps.toList) = Mo.isFig c := by
  have e : (Str.ofString "0123456789").cps.toList = [48, 49, 50, 51, 52, 53, 54, 55, 56, 57] := rfl
  rw [e]
  unfold Mo.isFig
  rw [← Bool.decide_and]
  apply decide_eq_decide.mpr
  simp only [List.mem_cons, List.not_mem_nil, or_false]
  omega
def sp_are_figures (K : PySem.W.Frag) : Sp := fun vs H Q _ => ∃ l : List Nat, vs = [.str (SX.S l)] ∧ l.length ≤ 100000 ∧ ∀ H', Ex H H' → Q (.bl (Mo.figs l)) H'
theorem fb_are_figures {P : Program} {w : World} {K : PySem.W.Frag} {mg : Str → Option Value} {base : Heap} (T : Env K mg) : ∃ fd, FunD K "are_figures" "are_figures" (defArgs s_are_figures) (defBody s_are_figures) (defScope s_are_figures) [] [] (He.ga K "are_figures") fd ∧ Fb P w K mg base 1 (He.ga K "are_figures") fd ["word"] (sp_are_figures K) := by
  obtain ⟨fd, F⟩ := T.f_are_figures
  refine ⟨fd, F, fb_of F sc_are_figures (fun vs H Q E h => ?_) (fun cdv A outer s H vs Q E hr h => ?_)⟩
  · obtain ⟨l, rfl, _⟩ := h
    rfl
  · obtain ⟨l, rfl, hl, q⟩ := h
    refine ⟨_, (pss_one (ps_ret (pe_and (pe_cmpR op_ne (pv 0) pe_str (nomark _)) (pe_one (pe_callB (cr_all rfl) (by rfl) T.n_all (by decide +kernel) (pa_cons (pe_lc (own := [("sign", 1)]) (by rfl) sc_are_figures.nd (pi_str (pv 0)) (blkOk_by (own := [("sign", 1)]) (N := ["word", "sign"]) (sc := defScope s_are_figures) (by decide +kernel)) (fun _ _ _ _ _ => (pg_name (i := 1) sc_are_figures.nd rfl (Or.inl rfl))) (fun _ _ _ _ _ => pts_nil) (fun _ _ _ _ _ => (pe_cmpR op_in_sign (pv 1) (pe_k T.v_FIGURES) (by rfl)))) pa_nil)))))), ?_⟩
    refine ⟨_, rfl, rfl, _, rfl, ?_⟩
    by_cases h0 : l = []
    · subst h0
      rw [decide_eq_true (show V.str (SX.S []) = V.str (Str.ofString "") from rfl)]
      exact q H (.refl H)
    · rw [decide_eq_false (show ¬ V.str (SX.S l) = V.str (Str.ofString "") from fun z => h0 (by injection z with z; exact SX.S_inj z))]
      refine iteT ?_
      refine ⟨_, rfl, _, rfl, fun D nD => lc_fm L2.walk_str (fun i => some (.bl (Mo.isFig (l.getD i 0)))) (fun H' => Ex H H') (fun H' z e => ex_mut e nD) (.refl H) (by show l.toArray.size ≤ 100000; simpa using hl) (fun _ _ => trivial) (fun i x H1 H2 acc N hi e hD la y k => ?_) fun H1 e1 d1 => ?_⟩
      · obtain ⟨rfl, c, hc, rfl⟩ := y
        refine ⟨rfl, _, rfl, c, _, rfl, rfl, acc, hD, la, ?_⟩
        rw [fig_in]
        have e2 : l.getD i 0 = c := by
          have hc2 : l[i]? = some c := by simpa using hc
          rw [List.getD_eq_getElem?_getD, hc2]
          rfl
        have k2 := k H2 e hD
        rw [e2] at k2
        exact k2
      · refine ⟨D, l.map Mo.isFig, rfl, sq_lst ?_, ?_⟩
        · rw [d1]
          have e3 := range_map_get l 0 (fun c => V.bl (Mo.isFig c))
          have e4 : l.toArray.size = l.length := by simp
          show some (HO.lst (List.filterMap _ (List.range l.toArray.size))) = _
          rw [e4, e3, List.map_map]
          rfl
        · have e5 : (l.map Mo.isFig).all id = Mo.figs l := by
            unfold Mo.figs
            rw [List.all_map]
            cases l with
            | nil => exact absurd rfl h0
            | cons a r => rfl
          rw [e5]
          exact q H1 e1

theorem ok_are_figures {P : Program} {w : World} {K : PySem.W.Frag} {mg : Str → Option Value} {base : Heap} (T : Env K mg) : Fc P w K mg base 1 (He.ga K "are_figures") [] (sp_are_figures K) := by
  obtain ⟨fd, D, F⟩ := fb_are_figures T
  exact F.all (D.bindsN fun _ _ _ _ _ _ us hl => match us, hl with | [_], _ => rfl)
end
section
def sp_number_of (K : PySem.W.Frag) : Sp := fun vs H Q E => ∃ l : List Nat, vs = [.str (SX.S l)] ∧ l.length ≤ 600 ∧ (∀ n, Mo.num? l = some n → ∀ H', Ex H H' → Q (.int n) H') ∧ (Mo.num? l = none → ∀ H', Ex H H' → E (.ref (He.ga K "NoTime")) none H')
theorem fb_number_of {P : Program} {w : World} {K : PySem.W.Frag} {mg : Str → Option Value} {base : Heap} (T : Env K mg) : ∃ fd, FunD K "number_of" "number_of" (defArgs s_number_of) (defBody s_number_of) (defScope s_number_of) [] [] (He.ga K "number_of") fd ∧ Fb P w K mg base 2 (He.ga K "number_of") fd ["word"] (sp_number_of K) := by
  obtain ⟨fd, F⟩ := T.f_number_of
  refine ⟨fd, F, fb_of F sc_number_of (fun vs H Q E h => ?_) (fun cdv A outer s H vs Q E hr h => ?_)⟩
  · obtain ⟨l, rfl, _⟩ := h
    rfl
  · obtain ⟨l, rfl, hl, q, qe⟩ := h
    refine ⟨_, (pss_cons (ps_if (PW.pt (pw_or (pt_not (pt_val (c_call (ok_are_figures T) (hr.mono (by decide)) T.g_are_figures T.k_are_figures (takes_of rfl rfl rfl rfl) (pa_cons (pv 0) pa_nil)))) (pw_or1 (PW.pt (pw_and (pt_cmpR op_gt (pe_callB call_len (by rfl) T.n_len (by decide +kernel) (pa_cons (pv 0) pa_nil)) pe_int (nomark _)) (pw_and1 (pt_cmpR op_eq (pe_ix ix_str (pv 0) pe_int (fun _ _ => rfl)) (pe_ix ix_str (pe_k T.v_FIGURES) pe_int (fun _ _ => rfl)) (nomark _))))))))
      (pss_one (ps_raise rfl (takes_of rfl rfl rfl rfl) (pmk_own PySem.F.excBase_ValueError T.x_NoTime.x T.g_NoTime T.x_NoTime.kp (raises_own T.x_NoTime.sub T.x_NoTime.ty) rfl)))
      pss_nil)
      (pss_one (ps_ret (pe_callTy call_int_str (by rfl) T.n_int (by decide +kernel) (pa_cons (pv 0) pa_nil))))), ?_⟩
    refine ⟨_, rfl, l, rfl, by omega, fun H1 X1 => ⟨_, rfl, ?_⟩⟩
    cases hf : Mo.figs l with
    | false => exact qe (by unfold Mo.num?; rw [hf]; rfl) H1 X1
    | true =>
      refine iteF ?_
      refine ⟨_, rfl, _, l.length, rfl, ⟨Nat.le_of_lt (small_len (by rw [SX.S_len]; omega)), (SX.S_len l).symm⟩, _, _, rfl, rfl, _, rfl, ?_⟩
      obtain ⟨h0, hd⟩ := Mo.figs_iff.mp hf
      have fin : (decide (1 < l.length) && l.head? == some 48) = false → (tRet (tCB (fun xs H Q => ∃ (a : Str) (n : Int), xs = [V.str a] ∧ intText? a = some n ∧ a.length ≤ 640 ∧ Q (.int n) H) (tCons (tVar 0) tNil))) { nx := fun _ H' => Q .non H', rt := Q } (start ["word"] [.str (SX.S l)]) H1 := fun hz => by
        refine ⟨_, rfl, _, _, rfl, SX.int_S (Mo.all_fig hd) h0 (by omega), by rw [SX.S_len]; omega, ?_⟩
        exact q (Mo.val l) (by unfold Mo.num?; rw [hf, hz]; rfl) H1 X1
      refine ite2 (fun c => ?_) (fun c => ?_)
      · have c2 : 1 < l.length := by have := of_decide_eq_true c; omega
        cases l with
        | nil => exact absurd rfl h0
        | cons a r =>
          refine ⟨_, rfl, _, _, a, rfl, rfl, Nat.le_of_lt (small_len (by rw [SX.S_len]; omega)), (show atI (a :: r) ((0 : Nat) : Int) = some a from atI_nat rfl), ?_⟩
          refine ⟨_, _, 48, rfl, rfl, by decide, rfl, rfl, _, rfl, ite2 (fun d => ?_) (fun d => ?_)⟩
          · have d2 : a = 48 := by
              have := of_decide_eq_true d
              injection this with this
              have z : [a] = [48] := SX.S_inj this
              injection z
            exact qe (by unfold Mo.num?; rw [hf, d2, decide_eq_true (by rw [d2] at c2; exact c2)]; rfl) H1 X1
          · have d2 : a ≠ 48 := fun z => d (decide_eq_true (by rw [z]))
            exact fin (by rw [decide_eq_true c2]; simpa using d2)
      · have c2 : ¬ 1 < l.length := fun z => c (decide_eq_true (by omega))
        exact fin (by rw [decide_eq_false c2]; rfl)

theorem ok_number_of {P : Program} {w : World} {K : PySem.W.Frag} {mg : Str → Option Value} {base : Heap} (T : Env K mg) : Fc P w K mg base 2 (He.ga K "number_of") [] (sp_number_of K) := by
  obtain ⟨fd, D, F⟩ := fb_number_of T
  exact F.all (D.bindsN fun _ _ _ _ _ _ us hl => match us, hl with | [_], _ => rfl)
end
section
def sp_day_of (K : PySem.W.Frag) : Sp := fun vs H Q E => ∃ l : List Nat, vs = [.str (SX.S l)] ∧ l.length ≤ 600 ∧ (∀ n, Mo.dayOf l = some n → ∀ H', Ex H H' → Q (.int n) H') ∧ (Mo.dayOf l = none → ∀ H', Ex H H' → E (.ref (He.ga K "NoTime")) none H')
theorem fb_day_of {P : Program} {w : World} {K : PySem.W.Frag} {mg : Str → Option Value} {base : Heap} (T : Env K mg) : ∃ fd, FunD K "day_of" "day_of" (defArgs s_day_of) (defBody s_day_of) (defScope s_day_of) [] [] (He.ga K "day_of") fd ∧ Fb P w K mg base 3 (He.ga K "day_of") fd ["word"] (sp_day_of K) := by
  obtain ⟨fd, F⟩ := T.f_day_of
  refine ⟨fd, F, fb_of F sc_day_of (fun vs H Q E h => ?_) (fun cdv A outer s H vs Q E hr h => ?_)⟩
  · obtain ⟨l, rfl, _⟩ := h
    rfl
  · obtain ⟨l, rfl, hl, q, qe⟩ := h
    refine ⟨_, (pss_cons (ps_set (i := 1) sc_day_of.nd rfl (Or.inl rfl) (c_call (ok_number_of T) (hr.mono (by decide)) T.g_number_of T.k_number_of (takes_of rfl rfl rfl rfl) (pa_cons (pv 0) pa_nil)))
      (pss_cons (ps_if (pt_cmpR op_eq (pv 1) pe_int (nomark _))
      (pss_one (ps_raise rfl (takes_of rfl rfl rfl rfl) (pmk_own PySem.F.excBase_ValueError T.x_NoTime.x T.g_NoTime T.x_NoTime.kp (raises_own T.x_NoTime.sub T.x_NoTime.ty) rfl)))
      pss_nil)
      (pss_one (ps_ret (pv 1))))), ?_⟩
    refine ⟨_, rfl, l, rfl, hl, fun n hn H1 X1 => ?_, fun hn H1 X1 => qe (by unfold Mo.dayOf; rw [hn]) H1 X1⟩
    refine ⟨_, rfl, rfl, _, rfl, ite2 (fun c => ?_) (fun c => ?_)⟩
    · have c2 : n = 0 := by have := of_decide_eq_true c; injection this with this; omega
      exact qe (by unfold Mo.dayOf; rw [hn, c2]; rfl) H1 X1
    · refine ⟨_, rfl, q n ?_ H1 X1⟩
      unfold Mo.dayOf
      rw [hn]
      cases n with
      | zero => exact absurd (decide_eq_true rfl) c
      | succ k => rfl

theorem ok_day_of {P : Program} {w : World} {K : PySem.W.Frag} {mg : Str → Option Value} {base : Heap} (T : Env K mg) : Fc P w K mg base 3 (He.ga K "day_of") [] (sp_day_of K) := by
  obtain ⟨fd, D, F⟩ := fb_day_of T
  exact F.all (D.bindsN fun _ _ _ _ _ _ us hl => match us, hl with | [_], _ => rfl)
end
section
def sp_read_moment (K : PySem.W.Frag) : Sp := fun vs H Q E => ∃ x, vs = [x] ∧ ((∃ l : List Nat, x = .str (SX.S l) ∧ l.length ≤ 600 ∧ (∀ n, Mo.momOf l = some n → ∀ H', Ex H H' → Q (.int n) H') ∧ (Mo.momOf l = none → ∀ H', Ex H H' → E (.ref (He.ga K "NoTime")) none H')) ∨
  (∃ t, TyX K H x t ∧ PySem.W.kitOne K t (.type "str") = some false ∧ E (.ref (He.ga K "NoTime")) none H))
theorem fb_read_moment {P : Program} {w : World} {K : PySem.W.Frag} {mg : Str → Option Value} {base : Heap} (T : Env K mg) : ∃ fd, FunD K "read_moment" "read_moment" (defArgs s_read_moment) (defBody s_read_moment) (defScope s_read_moment) [] [] (He.ga K "read_moment") fd ∧ Fb P w K mg base 6 (He.ga K "read_moment") fd ["text"] (sp_read_moment K) := by
  obtain ⟨fd, F⟩ := T.f_read_moment
  refine ⟨fd, F, fb_of F sc_read_moment (fun vs H Q E h => ?_) (fun cdv A outer s H vs Q E hr h => ?_)⟩
  · obtain ⟨x, rfl, _⟩ := h
    rfl
  · obtain ⟨x, rfl, h⟩ := h
    refine ⟨_, (pss_cons (ps_if (pt_not (pt_val (pe_callB call_isi (by rfl) T.n_isinstance (by decide +kernel) (pa_cons (pv 0) (pa_cons (pe_bltn (v := .ty "str") (by rfl) T.n_str (by decide +kernel) rfl) pa_nil)))))
      (pss_one (ps_raise rfl (takes_of rfl rfl rfl rfl) (pmk_own PySem.F.excBase_ValueError T.x_NoTime.x T.g_NoTime T.x_NoTime.kp (raises_own T.x_NoTime.sub T.x_NoTime.ty) rfl)))
      pss_nil)
      (pss_cons (ps_asg (pe_rpartition (pv 0) (pe_k T.v_BLANK)) (pg_tup (by rfl) (pgs_cons (pg_name (i := 1) sc_read_moment.nd rfl (Or.inl rfl)) (pgs_cons (pg_name (i := 2) sc_read_moment.nd rfl (Or.inl rfl)) (pgs_cons (pg_name (i := 3) sc_read_moment.nd rfl (Or.inl rfl)) pgs_nil)))))
      (pss_cons (ps_set (i := 4) sc_read_moment.nd rfl (Or.inl rfl) pe_int)
      (Evl.pss_cut (ps_if (pt_cmpR op_ne (pv 2) pe_str (nomark _))
      (pss_one (ps_set (i := 4) sc_read_moment.nd rfl (Or.inl rfl) (c_call (ok_day_of T) (hr.mono (by decide)) T.g_day_of T.k_day_of (takes_of rfl rfl rfl rfl) (pa_cons (pv 1) pa_nil))))
      pss_nil)
      (pss_cons (ps_asg (pe_partition (pv 3) (pe_k T.v_COLON)) (pg_tup (by rfl) (pgs_cons (pg_name (i := 5) sc_read_moment.nd rfl (Or.inl rfl)) (pgs_cons (pg_name (i := 6) sc_read_moment.nd rfl (Or.inl rfl)) (pgs_cons (pg_name (i := 7) sc_read_moment.nd rfl (Or.inl rfl)) pgs_nil)))))
      (pss_cons (ps_if (PW.pt (pw_or (pt_cmpR op_ne (pe_callB call_len (by rfl) T.n_len (by decide +kernel) (pa_cons (pv 7) pa_nil)) pe_int (nomark _)) (pw_or1 (pt_not (pt_val (c_call (ok_are_figures T) (hr.mono (by decide)) T.g_are_figures T.k_are_figures (takes_of rfl rfl rfl rfl) (pa_cons (pv 7) pa_nil)))))))
      (pss_one (ps_raise rfl (takes_of rfl rfl rfl rfl) (pmk_own PySem.F.excBase_ValueError T.x_NoTime.x T.g_NoTime T.x_NoTime.kp (raises_own T.x_NoTime.sub T.x_NoTime.ty) rfl)))
      pss_nil)
      (pss_one (ps_ret (c_call (ok_moment_at T) (hr.mono (by decide)) T.g_moment_at T.k_moment_at (takes_of rfl rfl rfl rfl) (pa_cons (pv 4) (pa_cons (c_call (ok_number_of T) (hr.mono (by decide)) T.g_number_of T.k_number_of (takes_of rfl rfl rfl rfl) (pa_cons (pv 5) pa_nil)) (pa_cons (pe_callTy call_int_str (by rfl) T.n_int (by decide +kernel) (pa_cons (pv 7) pa_nil)) pa_nil)))))))))))), ?_⟩
    rcases h with ⟨l, rfl, hl, q, qe⟩ | ⟨t, ty, kt, qe⟩
    · have ls : (SX.S l).length ≤ sizeLine := Nat.le_of_lt (small_len (by rw [SX.S_len]; omega))
      refine ⟨_, rfl, .str (SX.S l), .ty "str", _, _, true, rfl, .ty "str", .base (.str _), kit_ty (by decide +kernel), true, rfl, iteF ?_⟩
      refine ⟨_, rfl, ⟨_, rfl⟩, _, _, rfl, rfl, rfl, ls, fun p np => ?_⟩
      rw [show Str.ofString " " = SX.S [32] from rfl, Mo.rpartition_S]
      refine ⟨p, _, rfl, sq_tup upd_same, rfl, _, _, rfl, _, _, rfl, _, _, rfl, rfl, ?_⟩
      have X1 := fun o => ex_new (o := o) np
      refine ⟨fun σ' H' => Ex H H' ∧ ∃ (v1 v2 : Option V) (d : Nat) (t : List Nat), σ' = [some (.str (SX.S l)), v1, v2, some (.str (SX.S t)), some (.int d), none, none, none] ∧ t.length ≤ 600 ∧ Mo.momOf l = (Mo.clkOf t).map fun m => d * 1440 + m, ?_, ?_⟩
      · cases hc : Mo.rcut 32 l with
        | none =>
          refine ⟨_, rfl, rfl, _, rfl, iteF ?_⟩
          refine ⟨X1 _, _, _, 0, l, rfl, hl, ?_⟩
          unfold Mo.momOf
          rw [hc]
          simp
        | some z =>
          obtain ⟨h, t⟩ := z
          have el := (Mo.rcut_is hc).1
          have ll : h.length + t.length < l.length := by rw [el]; simp
          refine ⟨_, rfl, rfl, _, rfl, iteT ?_⟩
          refine ⟨_, rfl, h, rfl, by omega, fun n hn H1 e1 => ?_, fun hn H1 e1 => qe ?_ _ ((X1 _).trans e1)⟩
          · refine ⟨(X1 _).trans e1, _, _, n, t, rfl, by omega, ?_⟩
            unfold Mo.momOf
            rw [hc]
            simp only [hn]
          · unfold Mo.momOf
            rw [hc]
            simp only [hn]
      rintro σ' H2 ⟨X2, v1, v2, d, t, rfl, ht, em⟩
      have ts : (SX.S t).length ≤ sizeLine := Nat.le_of_lt (small_len (by rw [SX.S_len]; omega))
      refine ⟨_, rfl, ⟨_, rfl⟩, _, _, rfl, rfl, rfl, ts, fun p2 np2 => ?_⟩
      have X3 := fun o => X2.trans (ex_new (o := o) np2)
      rw [show Str.ofString ":" = SX.S [58] from rfl]
      cases hp : TL.par [58] [] t with
      | none =>
        rw [SX.partition_none (by decide) hp]
        refine ⟨p2, _, rfl, sq_tup upd_same, rfl, _, _, rfl, _, _, rfl, _, _, rfl, rfl, ?_⟩
        refine ⟨_, rfl, _, 0, rfl, ⟨Nat.zero_le _, rfl⟩, rfl, _, rfl, iteT ?_⟩
        refine qe ?_ _ (X3 _)
        rw [em]
        unfold Mo.clkOf
        rw [hp]
        rfl
      | some z =>
        obtain ⟨h, m⟩ := z
        rw [SX.partition_some (by decide) hp]
        refine ⟨p2, _, rfl, sq_tup upd_same, rfl, _, _, rfl, _, _, rfl, _, _, rfl, rfl, ?_⟩
        obtain ⟨h', eh, et, _⟩ := Mo.par_is hp
        have eh2 : h = h' := by rw [eh]; rfl
        subst eh2
        have tl : h.length + m.length < t.length := by rw [et]; simp
        have ms : (SX.S m).length ≤ sizeLine := Nat.le_of_lt (small_len (by rw [SX.S_len]; omega))
        refine ⟨_, rfl, _, m.length, rfl, ⟨ms, (SX.S_len m).symm⟩, rfl, _, rfl, ite2 (fun c => ?_) (fun c => ?_)⟩
        · refine qe ?_ _ (X3 _)
          have c2 : ¬ m.length = 2 := fun z => by
            rw [z] at c
            exact absurd c (by decide)
          rw [em]
          unfold Mo.clkOf
          rw [hp]
          show Option.map _ (if (decide (m.length = 2) && Mo.figs m) = true then _ else none) = none
          rw [decide_eq_false c2]
          rfl
        · have c2 : m.length = 2 := by
            by_cases z : m.length = 2
            · exact z
            · refine absurd ?_ c
              rw [decide_eq_false (show ¬ V.int ((m.length : Nat) : Int) = V.int 2 from fun y => z (by injection y with y; omega))]
              rfl
          refine ⟨_, rfl, m, rfl, by omega, fun H3 e3 => ⟨_, rfl, ?_⟩⟩
          have X4 : Ex H H3 := (X3 _).trans e3
          cases hf : Mo.figs m with
          | false =>
            refine qe ?_ _ X4
            rw [em]
            unfold Mo.clkOf
            rw [hp]
            show Option.map _ (if (decide (m.length = 2) && Mo.figs m) = true then _ else none) = none
            rw [hf, Bool.and_false]
            rfl
          | true =>
            refine iteF ?_
            obtain ⟨m0, md⟩ := Mo.figs_iff.mp hf
            have ec : ∀ k, Mo.num? h = some k → Mo.clkOf t = if k < 24 ∧ Mo.val m < 60 then some (k * 60 + Mo.val m) else none := fun k hk => by
              unfold Mo.clkOf
              rw [hp]
              show (if (decide (m.length = 2) && Mo.figs m) = true then (match Mo.num? h with | some k => if k < 24 ∧ Mo.val m < 60 then some (k * 60 + Mo.val m) else none | none => none) else none) = _
              rw [hf, decide_eq_true c2, hk]
              rfl
            refine ⟨_, rfl, _, rfl, h, rfl, by omega, fun k hk H4 e4 => ?_, fun hk H4 e4 => ?_⟩
            · refine ⟨_, rfl, _, _, rfl, SX.int_S (Mo.all_fig md) m0 (by omega), by rw [SX.S_len]; omega, rfl, ?_⟩
              have ek := ec k hk
              by_cases hg : k < 24 ∧ Mo.val m < 60
              · rw [if_pos hg] at ek
                refine ma_good (by omega) (by omega) (by omega) (by exact Int.natCast_nonneg _) (by exact Int.ofNat_lt.mpr hg.2) ?_
                have z := q (d * 1440 + (k * 60 + Mo.val m)) (by rw [em, ek]; rfl) H4 (X4.trans e4)
                have ez : ((d * 1440 + (k * 60 + Mo.val m) : Nat) : Int) = (d : Int) * 1440 + (k : Int) * 60 + (Mo.val m : Int) := by omega
                rw [ez] at z
                exact z
              · rw [if_neg hg] at ek
                refine ⟨_, _, _, rfl, cl_int _, cl_int _, cl_int _, fun d' h' m' e1 e2 e3 eb => ?_, fun _ => qe (by rw [em, ek]; rfl) H4 (X4.trans e4)⟩
                exfalso
                apply hg
                have eb2 : (decide ((0 : Int) ≤ (d : Int)) && ((decide ((0 : Int) ≤ (k : Int)) && decide ((k : Int) < 24)) && (decide ((0 : Int) ≤ (Mo.val m : Int)) && decide ((Mo.val m : Int) < 60)))) = true := eb
                simp only [Bool.and_eq_true, decide_eq_true_eq] at eb2
                omega
            · refine qe ?_ H4 (X4.trans e4)
              rw [em]
              unfold Mo.clkOf
              rw [hp]
              show Option.map _ (if (decide (m.length = 2) && Mo.figs m) = true then (match Mo.num? h with | some k => if k < 24 ∧ Mo.val m < 60 then some (k * 60 + Mo.val m) else none | none => none) else none) = none
              rw [hk]
              split <;> rfl
    · refine ⟨_, rfl, x, .ty "str", t, _, false, rfl, .ty "str", ty, kt, false, rfl, ?_⟩
      exact qe
theorem rm_good {K : PySem.W.Frag} {H : Hp} {Q : VK} {E : XK} {m : Nat} (mb : m < 10 ^ 100) (q : ∀ H', Ex H H' → Q (.int m) H') : sp_read_moment K [.str (SX.S (Mo.shw m))] H Q E :=
  ⟨_, rfl, .inl ⟨_, rfl, Nat.le_trans (Mo.shw_len (by decide) mb) (by decide), fun n hn H' e => by
    rw [Mo.momOf_shw] at hn
    cases hn
    exact q H' e, fun hn => absurd hn (by rw [Mo.momOf_shw]; exact fun z => nomatch z)⟩⟩

theorem ok_read_moment {P : Program} {w : World} {K : PySem.W.Frag} {mg : Str → Option Value} {base : Heap} (T : Env K mg) : Fc P w K mg base 6 (He.ga K "read_moment") [] (sp_read_moment K) := by
  obtain ⟨fd, D, F⟩ := fb_read_moment T
  exact F.all (D.bindsN fun _ _ _ _ _ _ us hl => match us, hl with | [_], _ => rfl)
end
section
/-- a pot: what is left of a cell's digits, and what mixes -/
def Pot (H : Hp) (p : Addr) : Prop := ∃ a b c : Int, H p = some (.lst [.int a, .int b, .int c]) ∧ 0 ≤ b ∧ b < 2147483629
def sp__law_pot (K : PySem.W.Frag) : Sp := fun vs H Q _ => ∃ (a : Addr) (ns : List Int) (k : Int), vs = [.ref a, .int k] ∧ SqL K H a (ns.map V.int) ∧ 0 ≤ k ∧ k < 1000 ∧ ∀ p H', H p = none → Pot H' p → (∀ b, b ≠ p → H' b = H b) → Q (.ref p) H'
theorem fb__law_pot {P : Program} {w : World} {K : PySem.W.Frag} {mg : Str → Option Value} {base : Heap} (T : Env K mg) : ∃ fd, FunD K "_law_pot" "_law_pot" (defArgs s__law_pot) (defBody s__law_pot) (defScope s__law_pot) [] [] (He.ga K "_law_pot") fd ∧ Fb P w K mg base 1 (He.ga K "_law_pot") fd ["_law_script", "_law_k"] (sp__law_pot K) := by
  obtain ⟨fd, F⟩ := T.f__law_pot
  refine ⟨fd, F, fb_of F sc__law_pot (fun vs H Q E h => ?_) (fun cdv A outer s H vs Q E hr h => ?_)⟩
  · obtain ⟨a, ns, k, rfl, _⟩ := h
    rfl
  · obtain ⟨a, ns, k, rfl, hS, k0, k1, q⟩ := h
    refine ⟨_, (Evl.pss_cut (ps_set (i := 2) sc__law_pot.nd rfl (Or.inl rfl) (pe_ifExp (pt_cmpR op_lt (pv 1) (pe_callB call_len (by rfl) T.n_len (by decide +kernel) (pa_cons (pv 0) pa_nil)) (nomark _)) (pe_ix ix_list (pv 0) (pv 1) (fun _ _ => rfl)) pe_int))
      (pss_one (ps_ret (pe_lst (pa_cons (pe_callB (call_max2 rfl) (by rfl) T.n_max (by decide +kernel) (pa_cons pe_int (pa_cons (pe_op op_sub (pv 2) (pe_op op_pow pe_int pe_int)) pa_nil))) (pa_cons (pe_op op_mod (pe_op op_pow (pe_op op_add (pe_op op_mul (pe_op op_mod (pv 2) pe_int) pe_int) (pe_op op_mul pe_int (pe_op op_add (pv 1) pe_int))) pe_int) pe_int) (pa_cons pe_int pa_nil))))))), ?_⟩
    refine ⟨fun σ' H' => H' = H ∧ ∃ cell : Int, σ' = [some (.ref a), some (.int k), some (.int cell)], ?_, ?_⟩
    · refine ⟨_, rfl, _, rfl, _, _, rfl, .inl ⟨_, hS, rfl⟩, _, _, rfl, rfl, _, rfl, ite2 (fun c => ?_) (fun c => ?_)⟩
      · have c2 : k < ((ns.map V.int).length : Int) := of_decide_eq_true c
        rw [List.length_map] at c2
        obtain ⟨i, rfl⟩ := Int.eq_ofNat_of_zero_le k0
        have hi : i < ns.length := Int.ofNat_lt.mp c2
        refine ⟨_, rfl, _, rfl, a, _, _, .int ns[i], rfl, rfl, hS, ?_, rfl, ns[i], rfl⟩
        exact atI_nat (by rw [List.getElem?_map, List.getElem?_eq_getElem hi]; rfl)
      · exact ⟨rfl, 0, rfl⟩
    · rintro σ' H' ⟨rfl, cell, rfl⟩
      have m1 := Int.emod_nonneg cell (show (2147483629 : Int) ≠ 0 by decide)
      have m2 := Int.emod_lt_of_pos cell (show (0 : Int) < 2147483629 by decide)
      refine ⟨_, rfl, _, _, rfl, rfl, ⟨by decide, by decide, by decide⟩, _, _, rfl, rfl, _, _, rfl, ?_⟩
      refine ⟨_, rfl, _, _, rfl, rfl, (by show (0 : Int) < 2147483629; decide), _, _, rfl, rfl, .inr (by decide), _, rfl, _, _, rfl, rfl, _, _, rfl, rfl, .inl (by decide), _, _, rfl, rfl, _, _, rfl, rfl, ⟨by decide, by decide, ?_⟩, _, _, rfl, rfl, (by show (0 : Int) < 2147483563; decide), ?_⟩
      · show (cell % 2147483629 * 69621 + 40503 * (k + 1)).natAbs < 2 ^ 64
        omega
      · refine ⟨by show 3 ≤ sizeLine; decide, fun p hp => ?_⟩
        refine q p _ hp ⟨_, _, _, upd_same, Int.emod_nonneg _ (by decide), Int.lt_trans (Int.emod_lt_of_pos _ (by decide)) (by decide)⟩ fun b n => upd_ne n

theorem ok__law_pot {P : Program} {w : World} {K : PySem.W.Frag} {mg : Str → Option Value} {base : Heap} (T : Env K mg) : Fc P w K mg base 1 (He.ga K "_law_pot") [] (sp__law_pot K) := by
  obtain ⟨fd, D, F⟩ := fb__law_pot T
  exact F.all (D.bindsN fun _ _ _ _ _ _ us hl => match us, hl with | [_, _], _ => rfl)
end
section
/-- the pot at p is drawn from: everything else stays -/
def PotOn (H H' : Hp) (p : Addr) : Prop := Pot H' p ∧ ∀ b o, b ≠ p → H b = some o → H' b = some o
theorem PotOn.refl {H : Hp} {p : Addr} (h : Pot H p) : PotOn H H p := ⟨h, fun _ _ _ e => e⟩
theorem PotOn.trans {H H1 H2 : Hp} {p : Addr} (a : PotOn H H1 p) (b : PotOn H1 H2 p) : PotOn H H2 p := ⟨b.1, fun c o n e => b.2 c o n (a.2 c o n e)⟩
theorem pot_new {H H' : Hp} {p l : Addr} {o : HO} (P : PotOn H H' p) (n : H' l = none) : PotOn H (upd H' l o) p := by
  obtain ⟨⟨x, y, z, e, r⟩, k⟩ := P
  refine ⟨⟨x, y, z, by rw [upd_ne (ne_of_none e n)]; exact e, r⟩, fun b u nb h => ?_⟩
  rw [upd_ne (ne_of_none (k b u nb h) n)]
  exact k b u nb h
def sp__law_take (K : PySem.W.Frag) : Sp := fun vs H Q _ => ∃ (p : Addr) (n : Int), vs = [.ref p, .int n] ∧ Pot H p ∧ 0 < n ∧ n < 1073741824 ∧ ∀ (d : Int) H', 0 ≤ d → d < n → PotOn H H' p → Q (.int d) H'
theorem fb__law_take {P : Program} {w : World} {K : PySem.W.Frag} {mg : Str → Option Value} {base : Heap} (T : Env K mg) : ∃ fd, FunD K "_law_take" "_law_take" (defArgs s__law_take) (defBody s__law_take) (defScope s__law_take) [] [] (He.ga K "_law_take") fd ∧ Fb P w K mg base 1 (He.ga K "_law_take") fd ["_law_pot_here", "_law_many"] (sp__law_take K) := by
  obtain ⟨fd, F⟩ := T.f__law_take
  refine ⟨fd, F, fb_of F sc__law_take (fun vs H Q E h => ?_) (fun cdv A outer s H vs Q E hr h => ?_)⟩
  · obtain ⟨p, n, rfl, _⟩ := h
    rfl
  · obtain ⟨p, n, rfl, ⟨a, b, c, hp, b0, b1⟩, n0, n1, q⟩ := h
    refine ⟨_, (pss_cons (ps_if (pt_cmpR op_gt (pe_ix ix_list (pv 0) pe_int (fun _ _ => rfl)) pe_int (nomark _))
      (pss_cons (ps_asg (pe_callB call_divmodW (by rfl) T.n_divmod (by decide +kernel) (pa_cons (pe_ix ix_list (pv 0) pe_int (fun _ _ => rfl)) (pa_cons (pv 1) pa_nil))) (pg_tup (by rfl) (pgs_cons (pg_sub (pv 0) pe_int set_list) (pgs_cons (pg_name (i := 2) sc__law_take.nd rfl (Or.inl rfl)) pgs_nil))))
      (pss_one (ps_ret (pv 2))))
      pss_nil)
      (pss_cons (ps_asg (pe_op op_add (pe_ix ix_list (pv 0) pe_int (fun _ _ => rfl)) pe_int) (pg_sub (pv 0) pe_int set_list))
      (pss_cons (ps_asg (pe_op op_mod (pe_op op_add (pe_op op_mul (pe_ix ix_list (pv 0) pe_int (fun _ _ => rfl)) pe_int) (pe_op op_mul pe_int (pe_ix ix_list (pv 0) pe_int (fun _ _ => rfl)))) pe_int) (pg_sub (pv 0) pe_int set_list))
      (pss_one (ps_ret (pe_op op_mod (pe_op op_fdiv (pe_op op_mod (pe_op op_mul (pe_ix ix_list (pv 0) pe_int (fun _ _ => rfl)) (pe_ix ix_list (pv 0) pe_int (fun _ _ => rfl))) pe_int) pe_int) (pv 1))))))), ?_⟩
    refine ⟨_, rfl, p, _, _, .int a, rfl, rfl, sq_lst hp, rfl, _, _, rfl, rfl, _, rfl, ite2 (fun _ => ?_) (fun _ => ?_)⟩
    · refine ⟨_, rfl, p, _, _, .int a, rfl, rfl, sq_lst hp, rfl, _, rfl, a, n, rfl, ⟨n0, PyProof.noPylong_small (by omega)⟩, fun t ht => ?_⟩
      have pt : p ≠ t := ne_of_none hp ht
      refine ⟨t, _, rfl, sq_tup upd_same, rfl, _, _, rfl, _, rfl, p, [.int a, .int b, .int c], 0, 0, rfl, rfl, (by rw [upd_ne pt]; exact hp), rfl, _, _, rfl, rfl, _, rfl, ?_⟩
      refine q _ _ (Int.emod_nonneg _ (by omega)) (Int.emod_lt_of_pos _ n0) ⟨⟨_, _, _, upd_same, b0, b1⟩, fun x o nx e => ?_⟩
      rw [upd_ne nx, upd_ne (ne_of_none e ht)]
      exact e
    · refine ⟨_, rfl, p, _, _, .int c, rfl, rfl, sq_lst hp, rfl, _, _, rfl, rfl, _, rfl, p, _, 2, 2, rfl, rfl, hp, rfl, ?_⟩
      refine ⟨_, rfl, p, _, _, .int b, rfl, rfl, sq_lst upd_same, rfl, _, _, rfl, rfl, .inr (by decide), _, rfl, p, _, _, .int (c + 1), rfl, rfl, sq_lst upd_same, rfl, _, _, rfl, rfl, .inl (by decide), _, _, rfl, rfl, _, _, rfl, rfl, (by show (0 : Int) < 2147483629; decide), _, rfl, p, _, 1, 1, rfl, rfl, upd_same, rfl, ?_⟩
      have m1 := Int.emod_nonneg (b * 48271 + 11213 * (c + 1)) (show (2147483629 : Int) ≠ 0 by decide)
      have m2 := Int.emod_lt_of_pos (b * 48271 + 11213 * (c + 1)) (show (0 : Int) < 2147483629 by decide)
      refine ⟨_, rfl, p, _, _, .int ((b * 48271 + 11213 * (c + 1)) % 2147483629), rfl, rfl, sq_lst upd_same, rfl, _, rfl, p, _, _, .int ((b * 48271 + 11213 * (c + 1)) % 2147483629), rfl, rfl, sq_lst upd_same, rfl, _, _, rfl, rfl, .inl ⟨by omega, by omega⟩, _, _, rfl, rfl, (by show (0 : Int) < 2147483587; decide), _, _, rfl, rfl, ⟨by decide, by decide⟩, _, rfl, _, _, rfl, rfl, n0, ?_⟩
      refine q _ _ (Int.emod_nonneg _ (by omega)) (Int.emod_lt_of_pos _ n0) ⟨⟨_, _, _, upd_same, m1, m2⟩, fun x o nx e => ?_⟩
      rw [upd_ne nx, upd_ne nx]
      exact e
theorem PotOn.ex {H0 H H' : Hp} {p : Addr} (e : Ex H0 H) (n : H0 p = none) (P : PotOn H H' p) : Ex H0 H' := fun b o h => P.2 b o (ne_of_none h n) (e b o h)

theorem ok__law_take {P : Program} {w : World} {K : PySem.W.Frag} {mg : Str → Option Value} {base : Heap} (T : Env K mg) : Fc P w K mg base 1 (He.ga K "_law_take") [] (sp__law_take K) := by
  obtain ⟨fd, D, F⟩ := fb__law_take T
  exact F.all (D.bindsN fun _ _ _ _ _ _ us hl => match us, hl with | [_, _], _ => rfl)
end
section
def sp__law_great (K : PySem.W.Frag) : Sp := fun vs H Q _ => ∃ (p : Addr) (n : Int), vs = [.ref p, .int n] ∧ Pot H p ∧ 0 < n ∧ ∀ (d : Int) H', 0 ≤ d → d < n → PotOn H H' p → Q (.int d) H'
theorem fb__law_great {P : Program} {w : World} {K : PySem.W.Frag} {mg : Str → Option Value} {base : Heap} (T : Env K mg) : ∃ fd, FunD K "_law_great" "_law_great" (defArgs s__law_great) (defBody s__law_great) (defScope s__law_great) [] [] (He.ga K "_law_great") fd ∧ Fb P w K mg base 2 (He.ga K "_law_great") fd ["_law_pot_here", "_law_bound"] (sp__law_great K) := by
  obtain ⟨fd, F⟩ := T.f__law_great
  refine ⟨fd, F, fb_of F sc__law_great (fun vs H Q E h => ?_) (fun cdv A outer s H vs Q E hr h => ?_)⟩
  · obtain ⟨p, n, rfl, _⟩ := h
    rfl
  · obtain ⟨p, n, rfl, hp, n0, q⟩ := h
    refine ⟨_, (pss_cons (ps_set (i := 2) sc__law_great.nd rfl (Or.inl rfl) pe_int)
      (pss_cons (ps_for (passes_of rfl) rfl (pi_range1 (by rfl) T.n_range (pa_cons pe_int pa_nil)) (pg_name (i := 3) sc__law_great.nd rfl (Or.inl rfl))
      (pss_one (ps_set (i := 2) sc__law_great.nd rfl (Or.inl rfl) (pe_op op_add (pe_op op_mul (pv 2) (pe_op op_pow pe_int pe_int)) (c_call (ok__law_take T) (hr.mono (by decide)) T.g__law_take T.k__law_take takes0 (pa_cons (pv 0) (pa_cons (pe_op op_pow pe_int pe_int) pa_nil)))))))
      (pss_one (ps_ret (pe_op op_mod (pv 2) (pv 1)))))), ?_⟩
    refine ⟨7, rfl, by decide, by decide, for_range (n := 7) (fun i σ H' => PotOn H H' p ∧ ∃ (f : Int) (v : Option V), σ = [some (.ref p), some (.int n), some (.int f), v] ∧ 0 ≤ f) ⟨.refl hp, 0, none, rfl, Int.le_refl _⟩ ?_ ?_⟩
    · rintro i σ H1 hi ⟨P1, f, v, rfl, f0⟩
      refine ⟨_, rfl, _, _, rfl, rfl, ⟨by decide, by decide, by decide⟩, _, _, rfl, rfl, .inr (by decide), _, rfl, _, _, rfl, rfl, ⟨by decide, by decide, by decide⟩, p, _, rfl, P1.1, by decide, by decide, fun d H2 d0 d1 P2 => ?_⟩
      refine ⟨_, _, rfl, rfl, P1.trans P2, _, _, rfl, ?_⟩
      have : (0 : Int) ≤ f * 10 ^ (9 : Int).toNat := Int.mul_nonneg f0 (by decide)
      omega
    · rintro σ H1 ⟨P1, f, v, rfl, f0⟩
      refine ⟨_, rfl, _, rfl, _, _, rfl, rfl, n0, ?_⟩
      exact q _ _ (Int.emod_nonneg _ (by omega)) (Int.emod_lt_of_pos _ n0) P1

theorem ok__law_great {P : Program} {w : World} {K : PySem.W.Frag} {mg : Str → Option Value} {base : Heap} (T : Env K mg) : Fc P w K mg base 2 (He.ga K "_law_great") [] (sp__law_great K) := by
  obtain ⟨fd, D, F⟩ := fb__law_great T
  exact F.all (D.bindsN fun _ _ _ _ _ _ us hl => match us, hl with | [_, _], _ => rfl)
end
section
/-- a small thing that can be shown -/
def Thg (K : PySem.W.Frag) (H : Hp) (x : V) : Prop := ∃ d, Dq K H x d ∧ ShD d ∧ Cl K H x
def szO : HO → Nat
  | .lst xs => xs.length
  | _ => 0
/-- one that rests on one small object at most -/
def Thing (K : PySem.W.Frag) (H : Hp) (x : V) : Prop := (∀ H', Thg K H' x) ∨ ∃ a o, x = .ref a ∧ H a = some o ∧ szO o ≤ 1 ∧ ∀ H', H' a = some o → Thg K H' x
theorem Thing.thg {K : PySem.W.Frag} {H : Hp} {x : V} (h : Thing K H x) : Thg K H x := by
  rcases h with h | ⟨a, o, _, e, _, k⟩
  · exact h H
  · exact k H e
theorem Thing.keep {K : PySem.W.Frag} {H H' : Hp} {x : V} (h : Thing K H x) (k : ∀ a o, szO o ≤ 1 → H a = some o → H' a = some o) : Thing K H' x := by
  rcases h with h | ⟨a, o, e1, e, s, k2⟩
  · exact .inl h
  · exact .inr ⟨a, o, e1, k a o s e, s, k2⟩
theorem Thing.pot {K : PySem.W.Frag} {H H' : Hp} {x : V} {p : Addr} (h : Thing K H x) (hp : Pot H p) (P : PotOn H H' p) : Thing K H' x := h.keep fun a o s e => P.2 a o (fun z => by
  obtain ⟨_, _, _, e2, _⟩ := hp
  rw [z, e2] at e
  cases e
  exact absurd s (by show ¬ 3 ≤ 1; decide)) e
theorem Thing.upd3 {K : PySem.W.Frag} {H : Hp} {x a b c : V} {l : Addr} {o : HO} (h : Thing K H x) (hl : H l = some (.lst [a, b, c])) : Thing K (upd H l o) x := h.keep fun a o s e => by
  rw [upd_ne (fun z => by
    rw [z, hl] at e
    cases e
    exact absurd s (by show ¬ 3 ≤ 1; decide))]
  exact e
theorem Thing.ex {K : PySem.W.Frag} {H H' : Hp} {x : V} (h : Thing K H x) (e : Ex H H') : Thing K H' x := h.keep fun a o _ e2 => e a o e2
theorem th_obj {K : PySem.W.Frag} {H : Hp} {a : Addr} {o : HO} (h : H a = some o) (s : szO o ≤ 1) (k : ∀ H', H' a = some o → Thg K H' (.ref a)) : Thing K H (.ref a) := .inr ⟨a, o, rfl, h, s, k⟩
def sp__law_no_number (K : PySem.W.Frag) : Sp := fun vs H Q _ => ∃ (p : Addr) (m : Int), vs = [.ref p, .int m] ∧ Pot H p ∧ 0 ≤ m ∧ m ≤ 100 ∧ ∀ x H', PotOn H H' p → Thing K H' x → isB (m + 1) x = false → Q x H'
theorem at_mem {xs : List V} {i : Int} (h0 : 0 ≤ i) (h1 : i < (xs.length : Nat)) : ∃ x, x ∈ xs ∧ atI xs i = some x := by
  obtain ⟨n, rfl⟩ := Int.eq_ofNat_of_zero_le h0
  have hn : n < xs.length := Int.ofNat_lt.mp h1
  exact ⟨xs[n], List.getElem_mem hn, atI_nat (List.getElem?_eq_getElem hn)⟩
theorem get_one {α : Type} {x y : α} {i : Nat} (h : [x][i]? = some y) : y = x := by
  have := List.mem_of_getElem? h
  simpa using this
section
variable {K : PySem.W.Frag} {H : Hp} {a : Addr} {x y z : V} {d e f : PyData}
theorem dq_lst0 (h : H a = some (.lst [])) : Dq K H (.ref a) (.list []) := .lst (sq_lst h) rfl fun i y e h1 _ => by simp at h1
theorem dq_lst1 (h : H a = some (.lst [x])) (hx : Dq K H x d) : Dq K H (.ref a) (.list [d]) := .lst (sq_lst h) rfl fun i y e h1 h2 => by
  rw [get_one h1, get_one h2]
  exact hx
theorem all_three {P : V → PyData → Prop} (hx : P x d) (hy : P y e) (hz : P z f) : ∀ (i : Nat) (v : V) (g : PyData), [x, y, z][i]? = some v → [d, e, f][i]? = some g → P v g
  | 0, v, g, h1, h2 => by cases h1; cases h2; exact hx
  | 1, v, g, h1, h2 => by cases h1; cases h2; exact hy
  | 2, v, g, h1, h2 => by cases h1; cases h2; exact hz
  | n + 3, v, g, h1, h2 => by simp at h1
theorem dq_lst3 (h : H a = some (.lst [x, y, z])) (hx : Dq K H x d) (hy : Dq K H y e) (hz : Dq K H z f) : Dq K H (.ref a) (.list [d, e, f]) := .lst (sq_lst h) rfl (all_three hx hy hz)
theorem dq_tup0 (h : H a = some (.tup [])) : Dq K H (.ref a) (.tuple []) := .tup (sq_tup h) rfl fun i y e h1 _ => by simp at h1
theorem dq_tup1 (h : H a = some (.tup [x])) (hx : Dq K H x d) : Dq K H (.ref a) (.tuple [d]) := .tup (sq_tup h) rfl fun i y e h1 h2 => by
  rw [get_one h1, get_one h2]
  exact hx
theorem dq_tup3 (h : H a = some (.tup [x, y, z])) (hx : Dq K H x d) (hy : Dq K H y e) (hz : Dq K H z f) : Dq K H (.ref a) (.tuple [d, e, f]) := .tup (sq_tup h) rfl (all_three hx hy hz)
theorem dq_dct0 (h : H a = some (.dK [])) : Dq K H (.ref a) (.dict []) := .dct (ds := []) h rfl fun i k y e h1 _ => by simp at h1
theorem dq_dct1 {k : Key} (h : H a = some (.dK [(k, x)])) (hx : Dq K H x d) : Dq K H (.ref a) (.dict [(keyD k, d)]) := .dct (ds := [d]) h rfl fun i k y e h1 h2 => by
  have e1 := get_one h1
  injection e1 with e2 e3
  rw [e3, get_one h2]
  exact hx
theorem th_int {i : Int} (h1 : -(10 ^ 150) < i) (h2 : i < 10 ^ 150) : Thing K H (.int i) := .inl fun _ => ⟨_, .int i, shd_int h1 h2, cl_int i⟩
theorem th_bl (b : Bool) : Thing K H (.bl b) := .inl fun _ => ⟨_, .bl b, by cases b <;> exact ⟨by decide +kernel, by decide +kernel, by decide +kernel⟩, cl_bl b⟩
theorem th_non : Thing K H .non := .inl fun _ => ⟨_, .non, ⟨by decide +kernel, by decide +kernel, by decide +kernel⟩, cl_non⟩
theorem th_str {z : Str} (h : ShD (.str z)) : Thing K H (.str z) := .inl fun _ => ⟨_, .str z, h, cl_str z⟩
end
theorem fb__law_no_number {P : Program} {w : World} {K : PySem.W.Frag} {mg : Str → Option Value} {base : Heap} (T : Env K mg) : ∃ fd, FunD K "_law_no_number" "_law_no_number" (defArgs s__law_no_number) (defBody s__law_no_number) (defScope s__law_no_number) [] [] (He.ga K "_law_no_number") fd ∧ Fb P w K mg base 3 (He.ga K "_law_no_number") fd ["_law_pot_here", "_law_most"] (sp__law_no_number K) := by
  obtain ⟨fd, F⟩ := T.f__law_no_number
  refine ⟨fd, F, fb_of F sc__law_no_number (fun vs H Q E h => ?_) (fun cdv A outer s H vs Q E hr h => ?_)⟩
  · obtain ⟨p, m, rfl, _⟩ := h
    rfl
  · obtain ⟨p, m, rfl, hp, m0, m1, q⟩ := h
    refine ⟨_, (pss_cons (ps_set (i := 2) sc__law_no_number.nd rfl (Or.inl rfl) (c_call (ok__law_take T) (hr.mono (by decide)) T.g__law_take T.k__law_take takes0 (pa_cons (pv 0) (pa_cons pe_int pa_nil))))
      (pss_cons (ps_set (i := 3) sc__law_no_number.nd rfl (Or.inl rfl) (c_call (ok__law_great T) (hr.mono (by decide)) T.g__law_great T.k__law_great takes0 (pa_cons (pv 0) (pa_cons (pe_op op_pow pe_int pe_int) pa_nil))))
      (pss_cons (ps_if (pt_cmpR op_lt (pv 2) pe_int (nomark _))
      (pss_one (ps_ret (pe_ix ix_list (pe_lst (pa_cons (pe_un un_neg pe_int) (pa_cons (pe_op op_sub (pe_un un_neg pe_int) (pv 3)) (pa_cons (pe_op op_add (pv 1) pe_int) (pa_cons (pe_op op_add (pe_op op_add (pv 1) pe_int) (pv 3)) pa_nil))))) (pv 2) (fun _ _ => rfl))))
      pss_nil)
      (pss_one (ps_ret (pe_ix ix_list (pe_lst (pa_cons pe_bl (pa_cons pe_bl (pa_cons pe_non (pa_cons pe_str (pa_cons pe_str (pa_cons (pe_lst (pa_cons pe_int pa_nil)) (pa_cons (pe_tup (pa_cons pe_int pa_nil)) (pa_cons pe_dnewK (pa_cons (pe_disp (pps_cons pe_int pe_int pps_nil) rfl rfl (by simp) (by decide)) (pa_cons pe_str pa_nil))))))))))) (pe_op op_sub (pv 2) pe_int) (fun _ _ => rfl))))))), ?_⟩
    refine ⟨_, rfl, p, 14, rfl, hp, by decide, by decide, fun way H1 w0 w1 P1 => ?_⟩
    refine ⟨_, rfl, _, _, rfl, rfl, ⟨by decide, by decide, by decide⟩, p, _, rfl, P1.1, by decide, fun far H2 f0 f1 P2 => ?_⟩
    have f2 : far < 10 ^ 59 := f1
    have P12 := P1.trans P2
    refine ⟨_, rfl, _, _, rfl, rfl, _, rfl, ite2 (fun c => ?_) (fun c => ?_)⟩
    · have w4 : way < 4 := of_decide_eq_true c
      refine ⟨_, rfl, _, rfl, _, rfl, _, _, rfl, rfl, ?_⟩
      refine ⟨_, rfl, _, _, rfl, rfl, ?_⟩
      refine ⟨_, rfl, _, _, rfl, rfl, _, rfl, _, _, rfl, rfl, ?_⟩
      refine ⟨by show 4 ≤ sizeLine; decide, fun l nl => ?_⟩
      obtain ⟨x, hx, ex⟩ := at_mem (xs := [.int (-1), .int (-1 - far), .int (m + 1), .int (m + 1 + far)]) w0 (by show way < 4; exact w4)
      refine ⟨_, rfl, l, _, way, x, rfl, rfl, sq_lst upd_same, ex, q x _ (pot_new P12 nl) ?_ ?_⟩
      · simp only [List.mem_cons, List.not_mem_nil, or_false] at hx
        rcases hx with rfl | rfl | rfl | rfl <;> exact th_int (by omega) (by omega)
      · simp only [List.mem_cons, List.not_mem_nil, or_false] at hx
        rcases hx with rfl | rfl | rfl | rfl
        · rfl
        · show (decide _ && decide _) = false
          rw [decide_eq_false (by omega)]
          rfl
        · show (decide _ && decide _) = false
          rw [decide_eq_false (show ¬ m + 1 < m + 1 by omega), Bool.and_false]
        · show (decide _ && decide _) = false
          rw [decide_eq_false (show ¬ m + 1 + far < m + 1 by omega), Bool.and_false]
    · have w4 : ¬ way < 4 := fun z => c (decide_eq_true z)
      refine ⟨by show 1 ≤ sizeLine; decide, fun l1 n1 => ?_⟩
      refine ⟨by show 1 ≤ sizeLine; decide, fun l2 n2 => ?_⟩
      refine fun l3 n3 => ?_
      refine fun l4 n4 => ?_
      refine ⟨upd_same, [(.inl 1, .int 1)], rfl, by show 1 ≤ 15; decide, ?_⟩
      refine ⟨by show 10 ≤ sizeLine; decide, fun l5 n5 => ?_⟩
      obtain ⟨x, hx, ex⟩ := at_mem (xs := [.bl true, .bl false, .non, .str "1", .str "", .ref l1, .ref l2, .ref l3, .ref l4, .str "7:05"]) (i := way - 4) (by omega) (by show way - 4 < 10; omega)
      rw [upd_upd] at n5 ⊢
      have P5 := fun o => pot_new (o := o) (pot_new (pot_new (pot_new (pot_new P12 n1) n2) n3) n4) n5
      have Y5 := fun o => ex_new (o := o) n5
      have Y4 := fun o => (ex_new n4).trans (Y5 o)
      have Y3 := fun o => (ex_new n3).trans (Y4 o)
      have Y2 := fun o => (ex_new n2).trans (Y3 o)
      refine ⟨_, rfl, _, _, rfl, rfl, l5, _, _, x, rfl, rfl, sq_lst upd_same, ex, q x _ (P5 _) ?_ ?_⟩
      · simp only [List.mem_cons, List.not_mem_nil, or_false] at hx
        rcases hx with rfl | rfl | rfl | rfl | rfl | rfl | rfl | rfl | rfl | rfl
        · exact th_bl _
        · exact th_bl _
        · exact th_non
        · exact th_str ⟨by decide +kernel, by decide +kernel, by decide +kernel⟩
        · exact th_str ⟨by decide +kernel, by decide +kernel, by decide +kernel⟩
        · have e := fun o => Y2 o _ _ upd_same
          exact th_obj (e _) (Nat.le_of_ble_eq_true rfl) fun _ e => ⟨_, dq_lst1 e (.int 1), ⟨by decide +kernel, by decide +kernel, by decide +kernel⟩, cl_lst e⟩
        · have e := fun o => Y3 o _ _ upd_same
          exact th_obj (e _) (Nat.le_of_ble_eq_true rfl) fun _ e => ⟨_, dq_tup1 e (.int 1), ⟨by decide +kernel, by decide +kernel, by decide +kernel⟩, cl_tup e⟩
        · have e := fun o => Y4 o _ _ upd_same
          exact th_obj (e _) (Nat.le_of_ble_eq_true rfl) fun _ e => ⟨_, dq_dct0 e, ⟨by decide +kernel, by decide +kernel, by decide +kernel⟩, cl_dK e⟩
        · have e := fun o => Y5 o _ _ upd_same
          exact th_obj (e _) (Nat.le_of_ble_eq_true rfl) fun _ e => ⟨_, dq_dct1 e (.int 1), ⟨by decide +kernel, by decide +kernel, by decide +kernel⟩, cl_dK e⟩
        · exact th_str ⟨by decide +kernel, by decide +kernel, by decide +kernel⟩
      · simp only [List.mem_cons, List.not_mem_nil, or_false] at hx
        rcases hx with rfl | rfl | rfl | rfl | rfl | rfl | rfl | rfl | rfl | rfl <;> rfl

theorem ok__law_no_number {P : Program} {w : World} {K : PySem.W.Frag} {mg : Str → Option Value} {base : Heap} (T : Env K mg) : Fc P w K mg base 3 (He.ga K "_law_no_number") [] (sp__law_no_number K) := by
  obtain ⟨fd, D, F⟩ := fb__law_no_number T
  exact F.all (D.bindsN fun _ _ _ _ _ _ us hl => match us, hl with | [_, _], _ => rfl)
end
section
def sp__law_no_moment (K : PySem.W.Frag) : Sp := fun vs H Q _ => ∃ (p : Addr), vs = [.ref p] ∧ Pot H p ∧ ∀ x H', PotOn H H' p → Thing K H' x → isM x = false → Q x H'
theorem fb__law_no_moment {P : Program} {w : World} {K : PySem.W.Frag} {mg : Str → Option Value} {base : Heap} (T : Env K mg) : ∃ fd, FunD K "_law_no_moment" "_law_no_moment" (defArgs s__law_no_moment) (defBody s__law_no_moment) (defScope s__law_no_moment) [] [] (He.ga K "_law_no_moment") fd ∧ Fb P w K mg base 3 (He.ga K "_law_no_moment") fd ["_law_pot_here"] (sp__law_no_moment K) := by
  obtain ⟨fd, F⟩ := T.f__law_no_moment
  refine ⟨fd, F, fb_of F sc__law_no_moment (fun vs H Q E h => ?_) (fun cdv A outer s H vs Q E hr h => ?_)⟩
  · obtain ⟨p, rfl, _⟩ := h
    rfl
  · obtain ⟨p, rfl, hp, q⟩ := h
    refine ⟨_, (pss_cons (ps_set (i := 1) sc__law_no_moment.nd rfl (Or.inl rfl) (c_call (ok__law_take T) (hr.mono (by decide)) T.g__law_take T.k__law_take takes0 (pa_cons (pv 0) (pa_cons pe_int pa_nil))))
      (pss_cons (ps_set (i := 2) sc__law_no_moment.nd rfl (Or.inl rfl) (c_call (ok__law_great T) (hr.mono (by decide)) T.g__law_great T.k__law_great takes0 (pa_cons (pv 0) (pa_cons (pe_op op_pow pe_int pe_int) pa_nil))))
      (pss_cons (ps_if (pt_cmpR op_lt (pv 1) pe_int (nomark _))
      (pss_one (ps_ret (pe_ix ix_list (pe_lst (pa_cons (pe_un un_neg pe_int) (pa_cons (pe_op op_sub (pe_un un_neg pe_int) (pv 2)) pa_nil))) (pv 1) (fun _ _ => rfl))))
      pss_nil)
      (pss_one (ps_ret (pe_ix ix_list (pe_lst (pa_cons pe_bl (pa_cons pe_bl (pa_cons pe_non (pa_cons pe_str (pa_cons pe_str (pa_cons (pe_lst (pa_cons pe_int pa_nil)) (pa_cons (pe_tup (pa_cons pe_int (pa_cons pe_int (pa_cons pe_int pa_nil)))) (pa_cons pe_dnewK (pa_cons pe_str (pa_cons (pe_lst (pa_cons pe_int pa_nil)) pa_nil))))))))))) (pe_op op_sub (pv 1) pe_int) (fun _ _ => rfl))))))), ?_⟩
    refine ⟨_, rfl, p, 12, rfl, hp, by decide, by decide, fun way H1 w0 w1 P1 => ?_⟩
    refine ⟨_, rfl, _, _, rfl, rfl, ⟨by decide, by decide, by decide⟩, p, _, rfl, P1.1, by decide, fun far H2 f0 f1 P2 => ?_⟩
    have f2 : far < 10 ^ 59 := f1
    have P12 := P1.trans P2
    refine ⟨_, rfl, _, _, rfl, rfl, _, rfl, ite2 (fun c => ?_) (fun c => ?_)⟩
    · have w4 : way < 2 := of_decide_eq_true c
      refine ⟨_, rfl, _, rfl, _, rfl, _, _, rfl, rfl, ?_⟩
      refine ⟨by show 2 ≤ sizeLine; decide, fun l nl => ?_⟩
      obtain ⟨x, hx, ex⟩ := at_mem (xs := [.int (-1), .int (-1 - far)]) w0 (by show way < 2; exact w4)
      refine ⟨_, rfl, l, _, way, x, rfl, rfl, sq_lst upd_same, ex, q x _ (pot_new P12 nl) ?_ ?_⟩
      · simp only [List.mem_cons, List.not_mem_nil, or_false] at hx
        rcases hx with rfl | rfl <;> exact th_int (by omega) (by omega)
      · simp only [List.mem_cons, List.not_mem_nil, or_false] at hx
        rcases hx with rfl | rfl
        · rfl
        · show decide _ = false
          rw [decide_eq_false (by omega)]
    · have w4 : ¬ way < 2 := fun z => c (decide_eq_true z)
      refine ⟨by show 1 ≤ sizeLine; decide, fun l1 n1 => ?_⟩
      refine ⟨by show 3 ≤ sizeLine; decide, fun l2 n2 => ?_⟩
      refine fun l3 n3 => ?_
      refine ⟨by show 1 ≤ sizeLine; decide, fun l4 n4 => ?_⟩
      refine ⟨by show 10 ≤ sizeLine; decide, fun l5 n5 => ?_⟩
      obtain ⟨x, hx, ex⟩ := at_mem (xs := [.bl true, .bl false, .non, .str "7:05", .str "", .ref l1, .ref l2, .ref l3, .str "0", .ref l4]) (i := way - 2) (by omega) (by show way - 2 < 10; omega)
      have P5 := fun o => pot_new (o := o) (pot_new (pot_new (pot_new (pot_new P12 n1) n2) n3) n4) n5
      have Y5 := fun o => ex_new (o := o) n5
      have Y4 := fun o => (ex_new n4).trans (Y5 o)
      have Y3 := fun o => (ex_new n3).trans (Y4 o)
      have Y2 := fun o => (ex_new n2).trans (Y3 o)
      refine ⟨_, rfl, _, _, rfl, rfl, l5, _, _, x, rfl, rfl, sq_lst upd_same, ex, q x _ (P5 _) ?_ ?_⟩
      · simp only [List.mem_cons, List.not_mem_nil, or_false] at hx
        rcases hx with rfl | rfl | rfl | rfl | rfl | rfl | rfl | rfl | rfl | rfl
        · exact th_bl _
        · exact th_bl _
        · exact th_non
        · exact th_str ⟨by decide +kernel, by decide +kernel, by decide +kernel⟩
        · exact th_str ⟨by decide +kernel, by decide +kernel, by decide +kernel⟩
        · have e := fun o => Y2 o _ _ upd_same
          exact th_obj (e _) (Nat.le_of_ble_eq_true rfl) fun _ e => ⟨_, dq_lst1 e (.int 1), ⟨by decide +kernel, by decide +kernel, by decide +kernel⟩, cl_lst e⟩
        · have e := fun o => Y3 o _ _ upd_same
          exact th_obj (e _) (Nat.le_of_ble_eq_true rfl) fun _ e => ⟨_, dq_tup3 e (.int 0) (.int 7) (.int 5), ⟨by decide +kernel, by decide +kernel, by decide +kernel⟩, cl_tup e⟩
        · have e := fun o => Y4 o _ _ upd_same
          exact th_obj (e _) (Nat.le_of_ble_eq_true rfl) fun _ e => ⟨_, dq_dct0 e, ⟨by decide +kernel, by decide +kernel, by decide +kernel⟩, cl_dK e⟩
        · exact th_str ⟨by decide +kernel, by decide +kernel, by decide +kernel⟩
        · have e := fun o => Y5 o _ _ upd_same
          exact th_obj (e _) (Nat.le_of_ble_eq_true rfl) fun _ e => ⟨_, dq_lst1 e (.int 0), ⟨by decide +kernel, by decide +kernel, by decide +kernel⟩, cl_lst e⟩
      · simp only [List.mem_cons, List.not_mem_nil, or_false] at hx
        rcases hx with rfl | rfl | rfl | rfl | rfl | rfl | rfl | rfl | rfl | rfl <;> rfl

theorem ok__law_no_moment {P : Program} {w : World} {K : PySem.W.Frag} {mg : Str → Option Value} {base : Heap} (T : Env K mg) : Fc P w K mg base 3 (He.ga K "_law_no_moment") [] (sp__law_no_moment K) := by
  obtain ⟨fd, D, F⟩ := fb__law_no_moment T
  exact F.all (D.bindsN fun _ _ _ _ _ _ us hl => match us, hl with | [_], _ => rfl)
end
section
def sp__law_no_text (K : PySem.W.Frag) : Sp := fun vs H Q _ => ∃ (p : Addr), vs = [.ref p] ∧ Pot H p ∧ ∀ x t H', PotOn H H' p → Thing K H' x → TyX K H' x t → PySem.W.kitOne K t (.type "str") = some false → Q x H'
theorem pot_ne {H H' : Hp} {p l : Addr} (P : PotOn H H' p) (n : H' l = none) : l ≠ p := fun z => by
  obtain ⟨_, _, _, e, _⟩ := P.1
  rw [z, e] at n
  cases n
theorem fb__law_no_text {P : Program} {w : World} {K : PySem.W.Frag} {mg : Str → Option Value} {base : Heap} (T : Env K mg) : ∃ fd, FunD K "_law_no_text" "_law_no_text" (defArgs s__law_no_text) (defBody s__law_no_text) (defScope s__law_no_text) [] [] (He.ga K "_law_no_text") fd ∧ Fb P w K mg base 2 (He.ga K "_law_no_text") fd ["_law_pot_here"] (sp__law_no_text K) := by
  obtain ⟨fd, F⟩ := T.f__law_no_text
  refine ⟨fd, F, fb_of F sc__law_no_text (fun vs H Q E h => ?_) (fun cdv A outer s H vs Q E hr h => ?_)⟩
  · obtain ⟨p, rfl, _⟩ := h
    rfl
  · obtain ⟨p, rfl, hp, q⟩ := h
    refine ⟨_, (pss_one (ps_ret (pe_ix ix_list (pe_lst (pa_cons pe_non (pa_cons pe_int (pa_cons pe_int (pa_cons pe_bl (pa_cons (pe_lst (pa_cons pe_str pa_nil)) (pa_cons (pe_tup (pa_cons pe_str pa_nil)) (pa_cons pe_dnewK (pa_cons (pe_disp (pps_cons pe_str pe_int pps_nil) rfl rfl (by simp) (by decide)) (pa_cons (pe_lst pa_nil) (pa_cons (pe_tup pa_nil) pa_nil))))))))))) (c_call (ok__law_take T) (hr.mono (by decide)) T.g__law_take T.k__law_take takes0 (pa_cons (pv 0) (pa_cons pe_int pa_nil))) (fun _ _ => rfl)))), ?_⟩
    refine ⟨by show 1 ≤ sizeLine; decide, fun l1 n1 => ?_⟩
    refine ⟨by show 1 ≤ sizeLine; decide, fun l2 n2 => ?_⟩
    refine fun l3 n3 => ?_
    refine fun l4 n4 => ?_
    refine ⟨upd_same, [(.inr "7:05", .int 1)], rfl, by show 1 ≤ 15; decide, ?_⟩
    refine ⟨by show 0 ≤ sizeLine; decide, fun l5 n5 => ?_⟩
    refine ⟨by show 0 ≤ sizeLine; decide, fun l6 n6 => ?_⟩
    refine ⟨by show 10 ≤ sizeLine; decide, fun l7 n7 => ?_⟩
    rw [upd_upd] at n5 n6 n7 ⊢
    have P7 := fun o => pot_new (o := o) (pot_new (pot_new (pot_new (pot_new (pot_new (pot_new (.refl hp) n1) n2) n3) n4) n5) n6) n7
    have Q0 : PotOn H H p := .refl hp
    have Q1 := fun o => pot_new (o := o) Q0 n1
    have Q2 := fun o => pot_new (o := o) (Q1 _) n2
    have Q3 := fun o => pot_new (o := o) (Q2 _) n3
    have Q4 := fun o => pot_new (o := o) (Q3 _) n4
    have Q5 := fun o => pot_new (o := o) (Q4 _) n5
    have Q6 := fun o => pot_new (o := o) (Q5 _) n6
    have u1 := pot_ne Q0 n1
    have u2 := pot_ne (Q1 _) n2
    have u3 := pot_ne (Q2 _) n3
    have u4 := pot_ne (Q3 _) n4
    have u5 := pot_ne (Q4 _) n5
    have u6 := pot_ne (Q5 _) n6
    have u7 := pot_ne (Q6 _) n7
    have Y7 := fun o => ex_new (o := o) n7
    have Y6 := fun o => (ex_new n6).trans (Y7 o)
    have Y5 := fun o => (ex_new n5).trans (Y6 o)
    have Y4 := fun o => (ex_new n4).trans (Y5 o)
    have Y3 := fun o => (ex_new n3).trans (Y4 o)
    have Y2 := fun o => (ex_new n2).trans (Y3 o)
    refine ⟨_, rfl, p, 10, rfl, (P7 _).1, by decide, by decide, fun way H8 w0 w1 P8 => ?_⟩
    obtain ⟨x, hx, ex⟩ := at_mem (xs := [.non, .int 7, .int 0, .bl true, .ref l1, .ref l2, .ref l3, .ref l4, .ref l5, .ref l6]) w0 (by show way < 10; exact w1)
    refine ⟨l7, _, _, x, rfl, rfl, sq_lst (P8.2 _ _ u7 upd_same), ex, ?_⟩
    have PP := (P7 _).trans P8
    simp only [List.mem_cons, List.not_mem_nil, or_false] at hx
    rcases hx with rfl | rfl | rfl | rfl | rfl | rfl | rfl | rfl | rfl | rfl
    · exact q _ _ _ PP th_non (.base .non) (kit_ty (by decide +kernel))
    · exact q _ _ _ PP (th_int (by decide +kernel) (by decide +kernel)) (.base (.int _)) (kit_ty (by decide +kernel))
    · exact q _ _ _ PP (th_int (by decide +kernel) (by decide +kernel)) (.base (.int _)) (kit_ty (by decide +kernel))
    · exact q _ _ _ PP (th_bl _) (.base (.bl _)) (kit_ty (by decide +kernel))
    · have e := P8.2 _ _ u1 (Y2 _ _ _ upd_same)
      exact q _ _ _ PP (th_obj e (Nat.le_of_ble_eq_true rfl) fun _ e => ⟨_, dq_lst1 e (.str _), ⟨by decide +kernel, by decide +kernel, by decide +kernel⟩, cl_lst e⟩) (.base (.lst e)) (kit_ty (by decide +kernel))
    · have e := P8.2 _ _ u2 (Y3 _ _ _ upd_same)
      exact q _ _ _ PP (th_obj e (Nat.le_of_ble_eq_true rfl) fun _ e => ⟨_, dq_tup1 e (.str _), ⟨by decide +kernel, by decide +kernel, by decide +kernel⟩, cl_tup e⟩) (.base (.tup e)) (kit_ty (by decide +kernel))
    · have e := P8.2 _ _ u3 (Y4 _ _ _ upd_same)
      exact q _ _ _ PP (th_obj e (Nat.le_of_ble_eq_true rfl) fun _ e => ⟨_, dq_dct0 e, ⟨by decide +kernel, by decide +kernel, by decide +kernel⟩, cl_dK e⟩) (.base (.dK e)) (kit_ty (by decide +kernel))
    · have e := P8.2 _ _ u4 (Y5 _ _ _ upd_same)
      exact q _ _ _ PP (th_obj e (Nat.le_of_ble_eq_true rfl) fun _ e => ⟨_, dq_dct1 e (.int 1), ⟨by decide +kernel, by decide +kernel, by decide +kernel⟩, cl_dK e⟩) (.base (.dK e)) (kit_ty (by decide +kernel))
    · have e := P8.2 _ _ u5 (Y6 _ _ _ upd_same)
      exact q _ _ _ PP (th_obj e (Nat.le_of_ble_eq_true rfl) fun _ e => ⟨_, dq_lst0 e, ⟨by decide +kernel, by decide +kernel, by decide +kernel⟩, cl_lst e⟩) (.base (.lst e)) (kit_ty (by decide +kernel))
    · have e := P8.2 _ _ u6 (Y7 _ _ _ upd_same)
      exact q _ _ _ PP (th_obj e (Nat.le_of_ble_eq_true rfl) fun _ e => ⟨_, dq_tup0 e, ⟨by decide +kernel, by decide +kernel, by decide +kernel⟩, cl_tup e⟩) (.base (.tup e)) (kit_ty (by decide +kernel))

theorem ok__law_no_text {P : Program} {w : World} {K : PySem.W.Frag} {mg : Str → Option Value} {base : Heap} (T : Env K mg) : Fc P w K mg base 2 (He.ga K "_law_no_text") [] (sp__law_no_text K) := by
  obtain ⟨fd, D, F⟩ := fb__law_no_text T
  exact F.all (D.bindsN fun _ _ _ _ _ _ us hl => match us, hl with | [_], _ => rfl)
end
section
def BadA (K : PySem.W.Frag) (H : Hp) (way : Int) (xs : List V) : Prop := ((way = 0 ∨ way = 1) ∧ ∃ x y z, xs = [x, y, z] ∧ Cl K H x ∧ Cl K H y ∧ Cl K H z ∧ isMA x y z = false) ∨ ((way = 2 ∨ way = 3) ∧ ∃ x, xs = [x] ∧ Cl K H x ∧ isM x = false) ∨ (way = 4 ∧ ∃ x t, xs = [x] ∧ TyX K H x t ∧ PySem.W.kitOne K t (.type "str") = some false)
def sp__law_asked (K : PySem.W.Frag) : Sp := fun vs H Q E => ∃ (way : Int) (a : Addr) (xs : List V), vs = [.int way, .ref a] ∧ SqL K H a xs ∧ BadA K H way xs ∧ E (.ref (He.ga K "NoTime")) none H
theorem fb__law_asked {P : Program} {w : World} {K : PySem.W.Frag} {mg : Str → Option Value} {base : Heap} (T : Env K mg) : ∃ fd, FunD K "_law_asked" "_law_asked" (defArgs s__law_asked) (defBody s__law_asked) (defScope s__law_asked) [] [] (He.ga K "_law_asked") fd ∧ Fb P w K mg base 7 (He.ga K "_law_asked") fd ["_law_way", "_law_things"] (sp__law_asked K) := by
  obtain ⟨fd, F⟩ := T.f__law_asked
  refine ⟨fd, F, fb_of F sc__law_asked (fun vs H Q E h => ?_) (fun cdv A outer s H vs Q E hr h => ?_)⟩
  · obtain ⟨way, a, xs, rfl, _⟩ := h
    rfl
  · obtain ⟨way, a, xs, rfl, hS, hB, q⟩ := h
    refine ⟨_, (pss_cons (ps_if (pt_cmpR op_eq (pv 0) pe_int (nomark _))
      (pss_one (ps_ret (c_call (ok_moment_at T) (hr.mono (by decide)) T.g_moment_at T.k_moment_at (takes_of rfl rfl rfl rfl) (pa_cons (pe_ix ix_list (pv 1) pe_int (fun _ _ => rfl)) (pa_cons (pe_ix ix_list (pv 1) pe_int (fun _ _ => rfl)) (pa_cons (pe_ix ix_list (pv 1) pe_int (fun _ _ => rfl)) pa_nil))))))
      pss_nil)
      (pss_cons (ps_if (pt_cmpR op_eq (pv 0) pe_int (nomark _))
      (pss_one (ps_ret (c_callK0 (ok_moment_at_0_minute_hour_day T) (hr.mono (by decide)) T.g_moment_at T.k_moment_at (takes_of rfl rfl rfl rfl) (pk_cons (pe_ix ix_list (pv 1) pe_int (fun _ _ => rfl)) (pk_cons (pe_ix ix_list (pv 1) pe_int (fun _ _ => rfl)) (pk_cons (pe_ix ix_list (pv 1) pe_int (fun _ _ => rfl)) pk_nil))))))
      pss_nil)
      (pss_cons (ps_if (pt_cmpR op_eq (pv 0) pe_int (nomark _))
      (pss_one (ps_ret (c_call (ok_clock_of T) (hr.mono (by decide)) T.g_clock_of T.k_clock_of (takes_of rfl rfl rfl rfl) (pa_cons (pe_ix ix_list (pv 1) pe_int (fun _ _ => rfl)) pa_nil))))
      pss_nil)
      (pss_cons (ps_if (pt_cmpR op_eq (pv 0) pe_int (nomark _))
      (pss_one (ps_ret (c_call (ok_show_moment T) (hr.mono (by decide)) T.g_show_moment T.k_show_moment (takes_of rfl rfl rfl rfl) (pa_cons (pe_ix ix_list (pv 1) pe_int (fun _ _ => rfl)) pa_nil))))
      pss_nil)
      (pss_one (ps_ret (c_call (ok_read_moment T) (hr.mono (by decide)) T.g_read_moment T.k_read_moment (takes_of rfl rfl rfl rfl) (pa_cons (pe_ix ix_list (pv 1) pe_int (fun _ _ => rfl)) pa_nil)))))))), ?_⟩
    rcases hB with ⟨hw, x, y, z, rfl, cx, cy, cz, hn⟩ | ⟨hw, x, rfl, cx, hn⟩ | ⟨rfl, x, t, rfl, ty, hn⟩
    · rcases hw with rfl | rfl
      · refine ⟨_, rfl, rfl, _, rfl, iteT ?_⟩
        refine ⟨_, rfl, a, _, _, x, rfl, rfl, hS, rfl, _, rfl, a, _, _, y, rfl, rfl, hS, rfl, _, rfl, a, _, _, z, rfl, rfl, hS, rfl, rfl, ?_⟩
        exact ⟨x, y, z, rfl, cx, cy, cz, fun _ _ _ _ _ _ h => absurd (hn.symm.trans h) Bool.noConfusion, fun _ => q⟩
      · refine ⟨_, rfl, rfl, _, rfl, iteF ?_⟩
        refine ⟨_, rfl, rfl, _, rfl, iteT ?_⟩
        refine ⟨_, rfl, a, _, _, z, rfl, rfl, hS, rfl, _, rfl, a, _, _, y, rfl, rfl, hS, rfl, _, rfl, a, _, _, x, rfl, rfl, hS, rfl, rfl, rfl, ?_⟩
        exact ⟨x, y, z, rfl, cx, cy, cz, fun _ _ _ _ _ _ h => absurd (hn.symm.trans h) Bool.noConfusion, fun _ => q⟩
    · have no : ∀ m : Int, x = .int m → 0 ≤ m → False := fun m e m0 => by
        subst e
        exact absurd (hn.symm.trans (decide_eq_true m0)) Bool.noConfusion
      rcases hw with rfl | rfl
      · refine ⟨_, rfl, rfl, _, rfl, iteF ?_⟩
        refine ⟨_, rfl, rfl, _, rfl, iteF ?_⟩
        refine ⟨_, rfl, rfl, _, rfl, iteT ?_⟩
        exact ⟨_, rfl, a, _, _, x, rfl, rfl, hS, rfl, x, rfl, cx, fun m e m0 => (no m e m0).elim, fun _ => q⟩
      · refine ⟨_, rfl, rfl, _, rfl, iteF ?_⟩
        refine ⟨_, rfl, rfl, _, rfl, iteF ?_⟩
        refine ⟨_, rfl, rfl, _, rfl, iteF ?_⟩
        refine ⟨_, rfl, rfl, _, rfl, iteT ?_⟩
        exact ⟨_, rfl, a, _, _, x, rfl, rfl, hS, rfl, x, rfl, cx, fun m e => (no m e (by omega)).elim, fun _ => q⟩
    · refine ⟨_, rfl, rfl, _, rfl, iteF ?_⟩
      refine ⟨_, rfl, rfl, _, rfl, iteF ?_⟩
      refine ⟨_, rfl, rfl, _, rfl, iteF ?_⟩
      refine ⟨_, rfl, rfl, _, rfl, iteF ?_⟩
      exact ⟨_, rfl, a, _, _, x, rfl, rfl, hS, rfl, x, rfl, .inr ⟨t, ty, hn, q⟩⟩

theorem ok__law_asked {P : Program} {w : World} {K : PySem.W.Frag} {mg : Str → Option Value} {base : Heap} (T : Env K mg) : Fc P w K mg base 7 (He.ga K "_law_asked") [] (sp__law_asked K) := by
  obtain ⟨fd, D, F⟩ := fb__law_asked T
  exact F.all (D.bindsN fun _ _ _ _ _ _ us hl => match us, hl with | [_, _], _ => rfl)
end
section
theorem ty_mono {K : PySem.W.Frag} {H H' : Hp} {x : V} {t : Value} (e : Ex H H') (h : TyX K H x t) : TyX K H' x t := by
  cases h with
  | base b =>
    cases b with
    | non => exact .base .non
    | bl b => exact .base (.bl b)
    | int b => exact .base (.int b)
    | str b => exact .base (.str b)
    | flt b => exact .base (.flt b)
    | lst h => exact .base (.lst (e _ _ h))
    | frz h => exact .base (.frz (e _ _ h))
    | tup h => exact .base (.tup (e _ _ h))
    | dK h => exact .base (.dK (e _ _ h))
    | dT h => exact .base (.dT (e _ _ h))
    | ins h c1 c2 c3 c4 c5 => exact .base (.ins (e _ _ h) c1 c2 c3 c4 c5)
  | byt b => exact .byt b
  | set h => exact .set (e _ _ h)
  | kList h c => exact .kList h c
  | kTuple h c => exact .kTuple h c
  | kDict h c => exact .kDict h c
  | fTuple h => exact .fTuple (e _ _ h)
  | fDict h => exact .fDict (e _ _ h)
theorem cl_mono {K : PySem.W.Frag} {H H' : Hp} {x : V} (e : Ex H H') (h : Cl K H x) : Cl K H' x := by
  obtain ⟨t, b, c, ty, r⟩ := h
  exact ⟨t, b, c, ty_mono e ty, r⟩
theorem BadA.mono {K : PySem.W.Frag} {H H' : Hp} {way : Int} {xs : List V} (e : Ex H H') (h : BadA K H way xs) : BadA K H' way xs := by
  rcases h with ⟨hw, x, y, z, rfl, cx, cy, cz, hn⟩ | ⟨hw, x, rfl, cx, hn⟩ | ⟨rfl, x, t, rfl, ty, hn⟩
  · exact .inl ⟨hw, x, y, z, rfl, cl_mono e cx, cl_mono e cy, cl_mono e cz, hn⟩
  · exact .inr (.inl ⟨hw, x, rfl, cl_mono e cx, hn⟩)
  · exact .inr (.inr ⟨rfl, x, t, rfl, ty_mono e ty, hn⟩)
def sp__law_refused (K : PySem.W.Frag) : Sp := fun vs H Q _ => ∃ (way : Int) (a : Addr) (xs : List V) (ds : List PyData), vs = [.int way, .ref a] ∧ SqL K H a xs ∧ Dq K H (.ref a) (.list ds) ∧ (∀ d ∈ ds, ShD d) ∧ ds.length ≤ 3 ∧ BadA K H way xs ∧ ∀ H', Ex H H' → Q (.bl true) H'
theorem fb__law_refused {P : Program} {w : World} {K : PySem.W.Frag} {mg : Str → Option Value} {base : Heap} (T : Env K mg) : ∃ fd, FunD K "_law_refused" "_law_refused" (defArgs s__law_refused) (defBody s__law_refused) (defScope s__law_refused) [] [] (He.ga K "_law_refused") fd ∧ Fb P w K mg base 8 (He.ga K "_law_refused") fd ["_law_way", "_law_things"] (sp__law_refused K) := by
  obtain ⟨fd, F⟩ := T.f__law_refused
  refine ⟨fd, F, fb_of F sc__law_refused (fun vs H Q E h => ?_) (fun cdv A outer s H vs Q E hr h => ?_)⟩
  · obtain ⟨way, a, xs, ds, rfl, _⟩ := h
    rfl
  · obtain ⟨way, a, xs, ds, rfl, hS, hD, hs, hl, hB, q⟩ := h
    refine ⟨_, (pss_cons (ps_set (i := 2) sc__law_refused.nd rfl (Or.inl rfl) (pe_callB (call_reprQ T.sys hr) (by rfl) T.n_repr (by decide +kernel) (pa_cons (pv 1) pa_nil)))
      (pss_cons (ps_set (i := 3) sc__law_refused.nd rfl (Or.inl rfl) (pe_lst pa_nil))
      (pss_cons (ps_try_tup (i := 4) rfl rfl sc__law_refused.nd rfl rfl T.g_GoingError T.g_LackError T.g_BookError (fun W pn xe tk po => (pss_one (ps_expr (c_call (ok__law_asked T) (hr.mono (by decide)) T.g__law_asked T.k__law_asked tk (pa_cons (pv 0) (pa_cons (pv 1) pa_nil)))))) (fun a oe cls d pn hz hf => (pss_cons (ps_set (i := 5) sc__law_refused.nd rfl (Or.inl rfl) (pe_callB (call_isAT hz hf) (by rfl) T.n_isinstance (by decide +kernel) (pa_cons (pv 4) (pa_cons (pe_tup (pa_cons (pe_glob (v := .ref _) (by rfl) T.g_NoCard rfl) (pa_cons (pe_glob (v := .ref _) (by rfl) T.g_NoDays rfl) (pa_cons (pe_glob (v := .ref _) (by rfl) T.g_NoName rfl) (pa_cons (pe_glob (v := .ref _) (by rfl) T.g_NoPiece rfl) (pa_cons (pe_glob (v := .ref _) (by rfl) T.g_NoRow rfl) (pa_cons (pe_glob (v := .ref _) (by rfl) T.g_NoText rfl) (pa_cons (pe_glob (v := .ref _) (by rfl) T.g_LackError rfl) (pa_cons (pe_glob (v := .ref _) (by rfl) T.g_BookError rfl) pa_nil))))))))) pa_nil))))
      (pss_one (ps_set (i := 3) sc__law_refused.nd rfl (Or.inl rfl) (pe_lst (pa_cons (pe_callB (call_isA hz hf) (by rfl) T.n_isinstance (by decide +kernel) (pa_cons (pv 4) (pa_cons (pe_glob (v := .ref _) (by rfl) T.g_NoTime rfl) pa_nil))) (pa_cons (pe_callB (call_isA hz hf) (by rfl) T.n_isinstance (by decide +kernel) (pa_cons (pv 4) (pa_cons (pe_glob (v := .ref _) (by rfl) T.g_GoingError rfl) pa_nil))) (pa_cons (pe_callB (call_isA hz hf) (by rfl) T.n_isinstance (by decide +kernel) (pa_cons (pv 4) (pa_cons (pe_bltn (v := .ty "ValueError") (by rfl) T.n_ValueError (by decide +kernel) rfl) pa_nil))) (pa_cons (pv 5) pa_nil))))))))))
      (pss_one (ps_ret (pe_and (pe_cmpR (op_eqD hr.rm.units) (pv 3) (pe_lst (pa_cons pe_bl (pa_cons pe_bl (pa_cons pe_bl (pa_cons pe_bl pa_nil))))) (nomark _)) (pe_one (pe_cmpR op_eq (pe_callB (call_reprQ T.sys hr) (by rfl) T.n_repr (by decide +kernel) (pa_cons (pv 1) pa_nil)) (pv 2) (nomark _))))))))), ?_⟩
    refine ⟨_, rfl, ?_⟩
    dsimp only [tNil]
    refine rq_list hD hs (by omega) ?_
    refine ⟨by show 0 ≤ sizeLine; decide, fun f nf => ?_⟩
    have X1 := ex_new (o := .lst []) nf
    have hB1 : BadA K (upd H f (.lst [])) way xs := hB.mono X1
    refine ⟨_, rfl, _, rfl, way, a, xs, rfl, ex_sql X1 hS, hB1, ?_⟩
    refine ⟨T.exm_NoTime, fun e ne => ?_⟩
    refine ⟨_, rfl, by show 8 ≤ sizeLine; decide, fun tp np => ?_⟩
    refine ⟨_, tp, _, _, false, rfl, rfl, T.xc_NoTime, rfl, upd_same, .cons (.own _) (.cons (.own _) (.cons (.own _) (.cons (.own _) (.cons (.own _) (.cons (.own _) (.cons (.own _) (.cons (.own _) .nil))))))), ?_, ?_⟩
    · exact kitAny_cons T.kit_NoTime_NoCard (fun _ => kitAny_cons T.kit_NoTime_NoDays (fun _ => kitAny_cons T.kit_NoTime_NoName (fun _ => kitAny_cons T.kit_NoTime_NoPiece (fun _ => kitAny_cons T.kit_NoTime_NoRow (fun _ => kitAny_cons T.kit_NoTime_NoText (fun _ => kitAny_cons T.kit_NoTime_LackError (fun _ => kitAny_cons T.kit_NoTime_BookError (fun _ => kitAny_nil) (by decide)) (by decide)) (by decide)) (by decide)) (by decide)) (by decide)) (by decide)) (by decide)
    refine ⟨_, rfl, _, _, _, true, rfl, rfl, T.xc_NoTime, rfl, .own _, T.kit_NoTime_NoTime, ?_⟩
    refine ⟨_, rfl, _, _, _, true, rfl, rfl, T.xc_NoTime, rfl, .own _, T.kit_NoTime_GoingError, ?_⟩
    refine ⟨_, rfl, _, _, _, true, rfl, rfl, T.xc_NoTime, rfl, .ty "ValueError", T.kit_NoTime_ValueError, ?_⟩
    refine ⟨_, rfl, by show 4 ≤ sizeLine; decide, fun l1 n1 => ?_⟩
    refine ⟨_, rfl, by show 4 ≤ sizeLine; decide, fun l2 n2 => ?_⟩
    have X2 := fun o2 => X1.trans ((ex_new np).trans ((ex_new n1).trans (ex_new (o := o2) n2)))
    refine ⟨.list [.bool true, .bool true, .bool true, .bool false], .list [.bool true, .bool true, .bool true, .bool false], ?_, ?_, rfl, rfl, true, rfl, ?_⟩
    · exact .lst (sq_lst (by rw [upd_ne (ne_of_none upd_same n2)]; exact upd_same)) (.cons (.bl _) (.cons (.bl _) (.cons (.bl _) (.cons (.bl _) .nil))))
    · exact .lst (sq_lst upd_same) (.cons (.bl _) (.cons (.bl _) (.cons (.bl _) (.cons (.bl _) .nil))))
    refine ⟨_, rfl, ?_⟩
    dsimp only [tNil]
    refine rq_list (hD.mono (X2 _)) hs (by omega) ?_
    refine ⟨_, rfl, rfl, ?_⟩
    rw [decide_eq_true rfl]
    exact q _ (X2 _)

theorem ok__law_refused {P : Program} {w : World} {K : PySem.W.Frag} {mg : Str → Option Value} {base : Heap} (T : Env K mg) : Fc P w K mg base 8 (He.ga K "_law_refused") [] (sp__law_refused K) := by
  obtain ⟨fd, D, F⟩ := fb__law_refused T
  exact F.all (D.bindsN fun _ _ _ _ _ _ us hl => match us, hl with | [_, _], _ => rfl)
end
section
def sp__law_good (K : PySem.W.Frag) : Sp := fun vs H Q _ => ∃ (d h m : Int), vs = [.int d, .int h, .int m] ∧ (0 ≤ d ∧ d < 10 ^ 60) ∧ (0 ≤ h ∧ h < 24) ∧ (0 ≤ m ∧ m < 60) ∧ ∀ H', Ex H H' → Q (.bl true) H'
theorem fb__law_good {P : Program} {w : World} {K : PySem.W.Frag} {mg : Str → Option Value} {base : Heap} (T : Env K mg) : ∃ fd, FunD K "_law_good" "_law_good" (defArgs s__law_good) (defBody s__law_good) (defScope s__law_good) [] [] (He.ga K "_law_good") fd ∧ Fb P w K mg base 7 (He.ga K "_law_good") fd ["_law_date", "_law_hand", "_law_left"] (sp__law_good K) := by
  obtain ⟨fd, F⟩ := T.f__law_good
  refine ⟨fd, F, fb_of F sc__law_good (fun vs H Q E h => ?_) (fun cdv A outer s H vs Q E hr h => ?_)⟩
  · obtain ⟨d, h, m, rfl, _⟩ := h
    rfl
  · obtain ⟨d, h, m, rfl, hd, hh, hm, q⟩ := h
    refine ⟨_, (pss_cons (ps_set (i := 3) sc__law_good.nd rfl (Or.inl rfl) (pe_op op_add (pe_op op_add (pe_op op_mul (pv 0) pe_int) (pe_op op_mul (pv 1) pe_int)) (pv 2)))
      (pss_cons (ps_if (PW.pt (pw_or (pt_cmpR op_ne (pe_callB SkE.call_repr_int (by rfl) T.n_repr (by decide +kernel) (pa_cons (c_call (ok_moment_at T) (hr.mono (by decide)) T.g_moment_at T.k_moment_at takes0 (pa_cons (pv 0) (pa_cons (pv 1) (pa_cons (pv 2) pa_nil)))) pa_nil)) (pe_callB SkE.call_repr_int (by rfl) T.n_repr (by decide +kernel) (pa_cons (pv 3) pa_nil)) (nomark _)) (pw_or1 (pt_cmpR (op_neD hr.rm.units) (c_call (ok_clock_of T) (hr.mono (by decide)) T.g_clock_of T.k_clock_of takes0 (pa_cons (pv 3) pa_nil)) (pe_tup (pa_cons (pv 0) (pa_cons (pv 1) (pa_cons (pv 2) pa_nil)))) (nomark _)))))
      (pss_one (ps_ret pe_bl))
      pss_nil)
      (pss_one (ps_ret (pe_cmpR op_eq (pe_callB SkE.call_repr_int (by rfl) T.n_repr (by decide +kernel) (pa_cons (c_call (ok_read_moment T) (hr.mono (by decide)) T.g_read_moment T.k_read_moment takes0 (pa_cons (c_call (ok_show_moment T) (hr.mono (by decide)) T.g_show_moment T.k_show_moment takes0 (pa_cons (pv 3) pa_nil)) pa_nil)) pa_nil)) (pe_callB SkE.call_repr_int (by rfl) T.n_repr (by decide +kernel) (pa_cons (pv 3) pa_nil)) (nomark _)))))), ?_⟩
    obtain ⟨D, rfl⟩ := Int.eq_ofNat_of_zero_le hd.1
    obtain ⟨hh', rfl⟩ := Int.eq_ofNat_of_zero_le hh.1
    obtain ⟨mm, rfl⟩ := Int.eq_ofNat_of_zero_le hm.1
    have b1 : D * 1440 + hh' * 60 + mm < 10 ^ 100 := Nat.lt_trans (show D * 1440 + hh' * 60 + mm < 10 ^ 64 by omega) (by decide +kernel)
    have b2 : D * 1440 + hh' * 60 + mm < 10 ^ 200 := Nat.lt_trans b1 (by decide +kernel)
    have es : (D : Int) * 1440 + (hh' : Int) * 60 + (mm : Int) = ((D * 1440 + hh' * 60 + mm : Nat) : Int) := by omega
    refine ⟨_, rfl, _, _, rfl, rfl, .inr (by decide), _, rfl, _, _, rfl, rfl, .inr (by decide), _, _, rfl, rfl, _, rfl, _, _, rfl, rfl, ?_⟩
    dsimp only
    rw [es]
    refine ⟨_, rfl, _, rfl, _, rfl, rfl, ma_good hd.1 hh.1 hh.2 hm.1 hm.2 ?_⟩
    rw [es]
    refine ⟨_, rfl, log_of b2, _, rfl, _, rfl, log_of b2, rfl, _, rfl, iteNS rfl ?_⟩
    refine ⟨_, rfl, ?_⟩
    dsimp only [tNil]
    refine co_good fun t nt => ?_
    have ec : clockV ((D * 1440 + hh' * 60 + mm : Nat) : Int) = [.int D, .int hh', .int mm] := by
      unfold clockV
      rw [show ((D * 1440 + hh' * 60 + mm : Nat) : Int) / 1440 = D by omega, show ((D * 1440 + hh' * 60 + mm : Nat) : Int) % 1440 / 60 = hh' by omega, show ((D * 1440 + hh' * 60 + mm : Nat) : Int) % 60 = mm by omega]
    rw [ec]
    refine ⟨_, rfl, _, rfl, _, rfl, by show 3 ≤ sizeLine; decide, fun u nu => ?_⟩
    refine ⟨.tuple [.int D, .int hh', .int mm], .tuple [.int D, .int hh', .int mm], ?_, ?_, rfl, rfl, false, ?_, iteF ?_⟩
    · exact .tup (sq_tup (by rw [upd_ne (ne_of_none upd_same nu)]; exact upd_same)) (.cons (.int _) (.cons (.int _) (.cons (.int _) .nil)))
    · exact .tup (sq_tup upd_same) (.cons (.int _) (.cons (.int _) (.cons (.int _) .nil)))
    · have z : PyData.eqv (.tuple [.int D, .int hh', .int mm]) (.tuple [.int D, .int hh', .int mm]) = true := by
        show (decide ((D : Int) = D) && (decide ((hh' : Int) = hh') && (decide ((mm : Int) = mm) && true))) = true
        simp
      rw [z]
      rfl
    refine ⟨_, rfl, ?_⟩
    dsimp only [tNil]
    refine sm_good b2 fun H5 X5 => ?_
    refine rm_good b1 fun H6 X6 => ?_
    refine ⟨_, rfl, log_of b2, _, rfl, _, rfl, log_of b2, rfl, ?_⟩
    rw [decide_eq_true rfl]
    exact q _ ((ex_new nt).trans ((ex_new nu).trans (X5.trans X6)))

theorem ok__law_good {P : Program} {w : World} {K : PySem.W.Frag} {mg : Str → Option Value} {base : Heap} (T : Env K mg) : Fc P w K mg base 7 (He.ga K "_law_good") [] (sp__law_good K) := by
  obtain ⟨fd, D, F⟩ := fb__law_good T
  exact F.all (D.bindsN fun _ _ _ _ _ _ us hl => match us, hl with | [_, _, _], _ => rfl)
end
section
theorem pot_upd {H H' : Hp} {p l : Addr} {o : HO} (P : PotOn H H' p) (n : H l = none) (ne : l ≠ p) : PotOn H (upd H' l o) p := by
  obtain ⟨⟨x, y, z, e, r⟩, k⟩ := P
  refine ⟨⟨x, y, z, by rw [upd_ne (Ne.symm ne)]; exact e, r⟩, fun b u nb h => ?_⟩
  rw [upd_ne (ne_of_none h n)]
  exact k b u nb h
theorem PotOn.then {H H1 H2 : Hp} {p : Addr} (P : PotOn H H1 p) (np : H p = none) (e : Ex H1 H2) : PotOn H H2 p := by
  obtain ⟨⟨x, y, z, h, r⟩, k⟩ := P
  exact ⟨⟨x, y, z, e _ _ h, r⟩, fun b u nb h => e _ _ (k b u nb h)⟩
theorem PotOn.ex2 {H H1 H2 : Hp} {p : Addr} (P : PotOn H H1 p) (e : Ex H1 H2) : PotOn H H2 p := by
  obtain ⟨⟨x, y, z, h, r⟩, k⟩ := P
  exact ⟨⟨x, y, z, e _ _ h, r⟩, fun b u nb h => e _ _ (k b u nb h)⟩
def sp_law (K : PySem.W.Frag) : Sp := fun vs H Q _ => ∃ (a : Addr) (ns : List Int), vs = [.ref a] ∧ SqL K H a (ns.map V.int) ∧ ns.length ≤ 63 ∧ ∀ H', Q (.bl true) H'
theorem ok_law {P : Program} {w : World} {K : PySem.W.Frag} {mg : Str → Option Value} {base : Heap} (T : Env K mg) {fd : FuncData} (F : FunD K "law" "law" (defArgs s_law) (defBody s_law) (defScope s_law) [] [] (He.ga K "law") fd) : Fb P w K mg base 9 (He.ga K "law") fd ["_law_script"] (sp_law K) := by
  refine fb_of F sc_law (fun vs H Q E h => ?_) (fun cdv A outer s H vs Q E hr h => ?_)
  · obtain ⟨a, ns, rfl, _⟩ := h
    rfl
  · obtain ⟨a, ns, rfl, hS, hl, q⟩ := h
    refine ⟨_, (pss_cons (ps_for (passes_of rfl) rfl (pi_range1 (by rfl) T.n_range (pa_cons (pe_callB (call_max2 rfl) (by rfl) T.n_max (by decide +kernel) (pa_cons pe_int (pa_cons (pe_callB (call_min2 rfl) (by rfl) T.n_min (by decide +kernel) (pa_cons (pe_callB call_len (by rfl) T.n_len (by decide +kernel) (pa_cons (pv 0) pa_nil)) (pa_cons pe_int pa_nil))) pa_nil))) pa_nil)) (pg_name (i := 1) sc_law.nd rfl (Or.inl rfl))
      (pss_cons (ps_set (i := 2) sc_law.nd rfl (Or.inr rfl) (c_call (ok__law_pot T) (hr.mono (by decide)) T.g__law_pot T.k__law_pot takes0 (pa_cons (pv 0) (pa_cons (pv 1) pa_nil))))
      (pss_cons (ps_set (i := 3) sc_law.nd rfl (Or.inl rfl) (pe_op op_add pe_int (c_call (ok__law_take T) (hr.mono (by decide)) T.g__law_take T.k__law_take takes0 (pa_cons (pv 2) (pa_cons pe_int pa_nil)))))
      (pss_cons (ps_set (i := 4) sc_law.nd rfl (Or.inl rfl) (pe_cmpR op_eq (c_call (ok__law_take T) (hr.mono (by decide)) T.g__law_take T.k__law_take takes0 (pa_cons (pv 2) (pa_cons pe_int pa_nil))) pe_int (nomark _)))
      (pss_cons (ps_par3 (i := 5) (j := 6) (l := 7) (by rfl) sc_law.nd rfl rfl rfl (by decide) (by decide) (by decide) rfl rfl rfl (pa_cons pe_int (pa_cons (c_call (ok__law_take T) (hr.mono (by decide)) T.g__law_take T.k__law_take takes0 (pa_cons (pv 2) (pa_cons pe_int pa_nil))) (pa_cons (c_call (ok__law_take T) (hr.mono (by decide)) T.g__law_take T.k__law_take takes0 (pa_cons (pv 2) (pa_cons pe_int pa_nil))) pa_nil))) (by rfl))
      (Evl.pss_cut (ps_if (pt_val (pv 4))
      (pss_one (ps_set (i := 5) sc_law.nd rfl (Or.inl rfl) (c_call (ok__law_great T) (hr.mono (by decide)) T.g__law_great T.k__law_great takes0 (pa_cons (pv 2) (pa_cons (pe_op op_pow pe_int pe_int) pa_nil)))))
      pss_nil)
      (pss_cons (ps_set (i := 8) sc_law.nd rfl (Or.inr rfl) (pe_lst (pa_cons (pv 5) (pa_cons (pv 6) (pa_cons (pv 7) pa_nil)))))
      (Evl.pss_cut (ps_if (pt_cmpR op_eq (pe_op op_mod (pv 3) pe_int) pe_int (nomark _))
      (pss_one (ps_asg (c_call (ok__law_no_moment T) (hr.mono (by decide)) T.g__law_no_moment T.k__law_no_moment takes0 (pa_cons (pv 2) pa_nil)) (pg_sub (pv 8) pe_int set_list)))
      pss_nil)
      (Evl.pss_cut (ps_if (pt_cmpR op_eq (pe_op op_mod (pe_op op_fdiv (pv 3) pe_int) pe_int) pe_int (nomark _))
      (pss_one (ps_asg (c_call (ok__law_no_number T) (hr.mono (by decide)) T.g__law_no_number T.k__law_no_number takes0 (pa_cons (pv 2) (pa_cons pe_int pa_nil))) (pg_sub (pv 8) pe_int set_list)))
      pss_nil)
      (Evl.pss_cut (ps_if (pt_cmpR op_eq (pe_op op_fdiv (pv 3) pe_int) pe_int (nomark _))
      (pss_one (ps_asg (c_call (ok__law_no_number T) (hr.mono (by decide)) T.g__law_no_number T.k__law_no_number takes0 (pa_cons (pv 2) (pa_cons pe_int pa_nil))) (pg_sub (pv 8) pe_int set_list)))
      pss_nil)
      (pss_cons (ps_if (PW.pt (pw_or (pt_not (pt_val (c_call (ok__law_good T) (hr.mono (by decide)) T.g__law_good T.k__law_good takes0 (pa_cons (pv 5) (pa_cons (pv 6) (pa_cons (pv 7) pa_nil)))))) (pw_or1 (pt_not (pt_val (pe_callB (cr_all rfl) (by rfl) T.n_all (by decide +kernel) (pa_cons (pe_lc (own := [("_law_way", 9)]) (by rfl) sc_law.nd (pi_tup (pe_tup (pa_cons pe_int (pa_cons pe_int pa_nil)))) (blkOk_by (own := [("_law_way", 9)]) (N := ["_law_script", "_law_k", "_law_pot_here", "_law_wrong", "_law_is_far", "_law_date", "_law_hand", "_law_left", "_law_things", "_law_way"]) (sc := defScope s_law) (by decide +kernel)) (fun _ _ _ _ _ => (pg_name (i := 9) sc_law.nd rfl (Or.inl rfl))) (fun _ _ _ _ _ => pts_nil) (fun _ _ _ _ _ => (c_call (ok__law_refused T) (hr.mono (by decide)) T.g__law_refused T.k__law_refused takes0 (pa_cons (pv 9) (pa_cons (pv 8) pa_nil))))) pa_nil)))))))
      (pss_one (ps_ret pe_bl))
      pss_nil)
      (pss_cons (ps_if (pt_not (pt_val (pe_callB (cr_all rfl) (by rfl) T.n_all (by decide +kernel) (pa_cons (pe_lc (own := [("_law_way", 9)]) (by rfl) sc_law.nd (pi_tup (pe_tup (pa_cons pe_int (pa_cons pe_int pa_nil)))) (blkOk_by (own := [("_law_way", 9)]) (N := ["_law_script", "_law_k", "_law_pot_here", "_law_wrong", "_law_is_far", "_law_date", "_law_hand", "_law_left", "_law_things", "_law_way"]) (sc := defScope s_law) (by decide +kernel)) (fun _ _ _ _ _ => (pg_name (i := 9) sc_law.nd rfl (Or.inl rfl))) (fun _ _ _ _ _ => pts_nil) (fun _ _ _ _ _ => (c_call (ok__law_refused T) (hr.mono (by decide)) T.g__law_refused T.k__law_refused takes0 (pa_cons (pv 9) (pa_cons (pe_lst (pa_cons (c_call (ok__law_no_moment T) (hr.mono (by decide)) T.g__law_no_moment T.k__law_no_moment takes0 (pa_cons (pv 2) pa_nil)) pa_nil)) pa_nil))))) pa_nil))))
      (pss_one (ps_ret pe_bl))
      pss_nil)
      (pss_one (ps_if (PW.pt (pw_or (pt_not (pt_val (c_call (ok__law_refused T) (hr.mono (by decide)) T.g__law_refused T.k__law_refused takes0 (pa_cons pe_int (pa_cons (pe_lst (pa_cons (c_call (ok__law_no_text T) (hr.mono (by decide)) T.g__law_no_text T.k__law_no_text takes0 (pa_cons (pv 2) pa_nil)) pa_nil)) pa_nil))))) (pw_or1 (pt_not (pt_val (c_call (ok__law_good T) (hr.mono (by decide)) T.g__law_good T.k__law_good takes0 (pa_cons (pv 5) (pa_cons (pv 6) (pa_cons (pv 7) pa_nil)))))))))
      (pss_one (ps_ret pe_bl))
      pss_nil))))))))))))))
      (pss_one (ps_ret pe_bl))), ?_⟩
    refine ⟨_, rfl, _, _, rfl, .inl ⟨_, hS, rfl⟩, _, _, rfl, _, _, rfl, _, rfl, (turns_lo 12 _ (by decide)), (turns_hi 12 _ (by decide)), for_range (fun i σ H' => Ex H H' ∧ ∃ v1 v2 v3 v4 v5 v6 v7 v8 v9, σ = [some (.ref a), v1, v2, v3, v4, v5, v6, v7, v8, v9]) ⟨.refl H, _, _, _, _, _, _, _, _, _, rfl⟩ ?_ ?_⟩
    · rintro i σ H1 hi ⟨X1, v1, v2, v3, v4, v5, v6, v7, v8, v9, rfl⟩
      have i1 : i < 1000 := turns_lt 12 _ (by decide) hi
      refine ⟨_, rfl, _, rfl, a, ns, _, rfl, ex_sql X1 hS, by omega, by omega, fun p H2 np P2 K2 => ?_⟩
      have X2 : Ex H H2 := fun b o e => by rw [K2 b (ne_of_none (X1 b o e) np)]; exact X1 b o e
      have hp0 : H p = none := ex_fresh X1 np
      refine ⟨_, rfl, p, 7, rfl, P2, by decide, by decide, fun w0 H3 w1 w2 P3 => ⟨_, _, rfl, rfl, ?_⟩⟩
      refine ⟨_, rfl, p, 2, rfl, P3.1, by decide, by decide, fun far H4 f1 f2 P4 => ⟨rfl, ?_⟩⟩
      refine ⟨_, rfl, p, 24, rfl, P4.1, by decide, by decide, fun hh H5 h1 h2 P5 => ?_⟩
      refine ⟨_, rfl, p, 60, rfl, P5.1, by decide, by decide, fun mm H6 m1 m2 P6 => ?_⟩
      have P26 := (P3.trans P4).trans (P5.trans P6)
      refine ⟨_, _, _, rfl, ?_⟩
      refine ⟨fun σ' H' => PotOn H2 H' p ∧ ∃ (D : Int) (v1 v4 v8 v9 : Option V), σ' = [some (.ref a), v1, some (.ref p), some (.int (1 + w0)), v4, some (.int D), some (.int hh), some (.int mm), v8, v9] ∧ 0 ≤ D ∧ D < 10 ^ 60, ?_, ?_⟩
      · refine ⟨_, rfl, _, rfl, ite2 (fun _ => ?_) (fun _ => ?_)⟩
        · refine ⟨_, rfl, _, _, rfl, rfl, ⟨by decide, by decide, by decide⟩, p, _, rfl, P6.1, by decide, fun D H7 d0 d1 P7 => ⟨P26.trans P7, D, _, _, _, _, rfl, d0, ?_⟩⟩
          have d2 : D < 10 ^ 59 := d1
          omega
        · exact ⟨P26, 0, _, _, _, _, rfl, by decide, by decide +kernel⟩
      rintro σ' H7 ⟨P7, D, v1, v4, v8, v9, rfl, d0, d1⟩
      refine ⟨_, rfl, _, rfl, _, rfl, by show 3 ≤ sizeLine; decide, fun l nl => ?_⟩
      have lp : l ≠ p := fun z => by
        obtain ⟨_, _, _, e, _⟩ := P7.1
        rw [z, e] at nl
        cases nl
      have nl2 : H2 l = none := by
        cases e : H2 l with
        | none => rfl
        | some o =>
          rw [P7.2 l o lp e] at nl
          cases nl
      have Tn : ∀ {H' : Hp} {i : Int}, 0 ≤ i → i < 10 ^ 60 → Thing K H' (.int i) := fun {H' i} g1 g2 => th_int (by omega) (by omega)
      refine ⟨fun σ' H' => PotOn H2 H' p ∧ ∃ (x y z : V) (v1 v4 v9 : Option V), σ' = [some (.ref a), v1, some (.ref p), some (.int (1 + w0)), v4, some (.int D), some (.int hh), some (.int mm), some (.ref l), v9] ∧ H' l = some (.lst [x, y, z]) ∧ Thing K H' x ∧ Thing K H' y ∧ Thing K H' z ∧ ((1 + w0) % 2 = 1 → isM x = false), ?_, ?_⟩
      · refine ⟨_, rfl, _, _, rfl, rfl, by show (0 : Int) < 2; decide, rfl, _, rfl, ite2 (fun c => ?_) (fun c => ?_)⟩
        · refine ⟨_, rfl, p, rfl, (pot_new P7 nl).1, fun x H8 P8 tx bx => ?_⟩
          have l8 := P8.2 _ _ lp upd_same
          refine ⟨_, rfl, l, _, 0, 0, rfl, rfl, l8, rfl, ?_⟩
          exact ⟨pot_upd ((pot_new P7 nl).trans P8) nl2 lp, x, _, _, _, _, _, rfl, upd_same, tx.upd3 l8, Tn h1 (by omega), Tn m1 (by omega), fun _ => bx⟩
        · refine ⟨pot_new P7 nl, _, _, _, _, _, _, rfl, upd_same, Tn d0 d1, Tn h1 (by omega), Tn m1 (by omega), fun z => absurd ?_ c⟩
          exact decide_eq_true (congrArg V.int z)
      rintro σ' H8 ⟨P8, x, y, z, v1, v4, v9, rfl, l8, tx, ty, tz, bx⟩
      refine ⟨fun σ' H' => PotOn H2 H' p ∧ ∃ (y : V) (v1 v4 v9 : Option V), σ' = [some (.ref a), v1, some (.ref p), some (.int (1 + w0)), v4, some (.int D), some (.int hh), some (.int mm), some (.ref l), v9] ∧ H' l = some (.lst [x, y, z]) ∧ Thing K H' x ∧ Thing K H' y ∧ Thing K H' z ∧ ((1 + w0) / 2 % 2 = 1 → isB 24 y = false), ?_, ?_⟩
      · refine ⟨_, rfl, _, _, rfl, rfl, ⟨by decide, by decide⟩, _, _, rfl, rfl, by show (0 : Int) < 2; decide, rfl, _, rfl, ite2 (fun c => ?_) (fun c => ?_)⟩
        · refine ⟨_, rfl, p, 23, rfl, P8.1, by decide, by decide, fun y' H9 P9 ty' by' => ?_⟩
          have l9 := P9.2 _ _ lp l8
          refine ⟨_, rfl, l, _, 1, 1, rfl, rfl, l9, rfl, ?_⟩
          exact ⟨pot_upd (P8.trans P9) nl2 lp, y', _, _, _, rfl, upd_same, (tx.pot P8.1 P9).upd3 l9, ty'.upd3 l9, (tz.pot P8.1 P9).upd3 l9, fun _ => by'⟩
        · refine ⟨P8, y, _, _, _, rfl, l8, tx, ty, tz, fun z => absurd ?_ c⟩
          exact decide_eq_true (congrArg V.int z)
      clear ty
      rintro σ' H9 ⟨P9, y, v1, v4, v9, rfl, l9, tx, ty, tz, byy⟩
      refine ⟨fun σ' H' => PotOn H2 H' p ∧ ∃ (z : V) (v1 v4 v9 : Option V), σ' = [some (.ref a), v1, some (.ref p), some (.int (1 + w0)), v4, some (.int D), some (.int hh), some (.int mm), some (.ref l), v9] ∧ H' l = some (.lst [x, y, z]) ∧ Thing K H' x ∧ Thing K H' y ∧ Thing K H' z ∧ ((1 + w0) / 4 = 1 → isB 60 z = false), ?_, ?_⟩
      · refine ⟨_, rfl, _, _, rfl, rfl, ⟨by decide, by decide⟩, rfl, _, rfl, ite2 (fun c => ?_) (fun c => ?_)⟩
        · refine ⟨_, rfl, p, 59, rfl, P9.1, by decide, by decide, fun z' HA PA tz' bz' => ?_⟩
          have lA := PA.2 _ _ lp l9
          refine ⟨_, rfl, l, _, 2, 2, rfl, rfl, lA, rfl, ?_⟩
          exact ⟨pot_upd (P9.trans PA) nl2 lp, z', _, _, _, rfl, upd_same, (tx.pot P9.1 PA).upd3 lA, (ty.pot P9.1 PA).upd3 lA, tz'.upd3 lA, fun _ => bz'⟩
        · refine ⟨P9, z, _, _, _, rfl, l9, tx, ty, tz, fun z => absurd ?_ c⟩
          exact decide_eq_true (congrArg V.int z)
      clear tz
      rintro σ' HB ⟨PB, z, v1, v4, v9, rfl, lB, tx, ty, tz, bz⟩
      have bad : isMA x y z = false := by
        unfold isMA
        by_cases c1 : (1 + w0) % 2 = 1
        · rw [bx c1]
          rfl
        · by_cases c2 : (1 + w0) / 2 % 2 = 1
          · rw [byy c2, Bool.false_and, Bool.and_false]
          · rw [bz (by omega), Bool.and_false, Bool.and_false]
      have good : ∀ {H' : Hp} {Q : VK} {E : XK}, (∀ H'', Ex H' H'' → Q (.bl true) H'') → sp__law_good K [.int D, .int hh, .int mm] H' Q E := fun {H' Q E} k => ⟨D, hh, mm, rfl, ⟨d0, d1⟩, ⟨h1, h2⟩, ⟨m1, m2⟩, k⟩
      refine ⟨_, rfl, _, rfl, _, rfl, ?_⟩
      dsimp only [tNil]
      refine good fun HC eC => ⟨true, rfl, iteF ?_⟩
      have PC := PB.ex2 eC
      have lC := eC _ _ lB
      obtain ⟨dx, qx, sx, cx⟩ := (tx.ex eC).thg
      obtain ⟨dy, qy, sy, cy⟩ := (ty.ex eC).thg
      obtain ⟨dz, qz, sz, cz⟩ := (tz.ex eC).thg
      refine ⟨by show 2 ≤ sizeLine; decide, fun t nt => ⟨t, rfl, ⟨_, sq_tup upd_same⟩, fun A nA => lc_true_tup (fun H' => Ex (upd HC t _) H') (fun H' z e => ex_mut e nA) (.refl _) (by show 2 ≤ 100000; decide) (fun H' e => sq_tup (e _ _ upd_same)) (fun i w H' acc N hi e hD la k => ?_) fun HD eD dD => ?_⟩⟩
      · have hw : ∃ u : Int, w = .int u ∧ (u = 0 ∨ u = 1) := by
          have hm := List.mem_of_getElem? hi
          simp only [List.mem_cons, List.not_mem_nil, or_false] at hm
          rcases hm with rfl | rfl
          · exact ⟨_, rfl, .inl rfl⟩
          · exact ⟨_, rfl, .inr rfl⟩
        obtain ⟨u, rfl, hu⟩ := hw
        have eH : Ex HC H' := (ex_new nt).trans e
        have lH := eH _ _ lC
        refine ⟨rfl, _, rfl, _, rfl, u, l, _, [dx, dy, dz], rfl, sq_lst lH, dq_lst3 lH (qx.mono eH) (qy.mono eH) (qz.mono eH), ?_, by show 3 ≤ 3; decide, .inl ⟨hu, x, y, z, rfl, cl_mono eH cx, cl_mono eH cy, cl_mono eH cz, bad⟩, fun H6 e6 => ⟨acc, e6 _ _ hD, la, k H6 (e.trans e6) (e6 _ _ hD)⟩⟩
        intro d hd
        simp only [List.mem_cons, List.not_mem_nil, or_false] at hd
        rcases hd with rfl | rfl | rfl
        · exact sx
        · exact sy
        · exact sz
      refine ⟨A, List.replicate 2 true, rfl, sq_lst dD, ?_⟩
      rw [all_rep]
      refine ⟨true, rfl, iteF ?_⟩
      have PD : PotOn H2 HD p := PC.ex2 ((ex_new nt).trans eD)
      refine ⟨by show 2 ≤ sizeLine; decide, fun t2 nt2 => ⟨t2, rfl, ⟨_, sq_tup upd_same⟩, fun B nB => ?_⟩⟩
      have PE := fun o => pot_new (o := o) PD nt2
      have t2p : t2 ≠ p := pot_ne PD nt2
      have Bp : B ≠ p := pot_ne (PE _) nB
      refine lc_true_tup (fun H' => PotOn (upd HD t2 _) H' p) (fun H' z e => pot_upd e nB Bp) (.refl (PE _).1) (by show 2 ≤ 100000; decide) (fun H' e => sq_tup (e.2 _ _ t2p upd_same)) (fun i w H' acc N hi e hD la k => ?_) fun HF eF dF => ?_
      · have hw : ∃ u : Int, w = .int u ∧ (u = 2 ∨ u = 3) := by
          have hm := List.mem_of_getElem? hi
          simp only [List.mem_cons, List.not_mem_nil, or_false] at hm
          rcases hm with rfl | rfl
          · exact ⟨_, rfl, .inl rfl⟩
          · exact ⟨_, rfl, .inr rfl⟩
        obtain ⟨u, rfl, hu⟩ := hw
        refine ⟨rfl, _, rfl, _, rfl, p, rfl, e.1, fun v H6 P6 tv bv => ⟨by show 1 ≤ sizeLine; decide, fun l2 n2 => ?_⟩⟩
        have tv2 := fun o => (tv.ex (ex_new (o := o) n2)).thg
        obtain ⟨dv, qv, sv, cv⟩ := tv2 (.lst [v])
        have hD6 := P6.2 _ _ Bp hD
        refine ⟨u, l2, _, [dv], rfl, sq_lst upd_same, dq_lst1 upd_same qv, ?_, by show 1 ≤ 3; decide, .inr (.inl ⟨hu, v, rfl, cv, bv⟩), fun H7 e7 => ?_⟩
        · intro d hd
          simp only [List.mem_cons, List.not_mem_nil, or_false] at hd
          subst hd
          exact sv
        · have e8 : Ex H6 H7 := (ex_new n2).trans e7
          exact ⟨acc, e8 _ _ hD6, la, k H7 ((e.trans P6).ex2 e8) (e8 _ _ hD6)⟩
      refine ⟨B, List.replicate 2 true, rfl, sq_lst dF, ?_⟩
      rw [all_rep]
      refine ⟨true, rfl, iteF ?_⟩
      have PF : PotOn H2 HF p := (PE _).trans eF
      refine ⟨_, rfl, p, rfl, PF.1, fun v t HG PG tv tyv kv => ⟨by show 1 ≤ sizeLine; decide, fun l2 n2 => ?_⟩⟩
      have tv2 := fun o => (tv.ex (ex_new (o := o) n2)).thg
      obtain ⟨dv, qv, sv, cv⟩ := tv2 (.lst [v])
      refine ⟨4, l2, _, [dv], rfl, sq_lst upd_same, dq_lst1 upd_same qv, ?_, by show 1 ≤ 3; decide, .inr (.inr ⟨rfl, v, t, rfl, ty_mono (ex_new n2) tyv, kv⟩), fun HI eI => ?_⟩
      · intro d hd
        simp only [List.mem_cons, List.not_mem_nil, or_false] at hd
        subst hd
        exact sv
      refine ⟨true, rfl, iteF ?_⟩
      refine ⟨_, rfl, _, rfl, _, rfl, ?_⟩
      dsimp only [tNil]
      refine good fun HJ eJ => ⟨true, rfl, iteF ?_⟩
      exact ⟨(PotOn.ex X2 hp0 (PF.trans PG)).trans ((ex_new n2).trans (eI.trans eJ)), _, _, _, _, _, _, _, _, _, rfl⟩
    · rintro σ H1 ⟨X1, v1, v2, v3, v4, v5, v6, v7, v8, v9, rfl⟩
      exact q H1

end
end Toy
namespace Toy
open PySem PySem.Spec PyProof.Rows L2 L3
def xf : List Fx := [fun K => (He.Fa.glo "is_whole").ok K,
  fun K => (He.Fa.glo "is_moment").ok K,
  fun K => (He.Fa.glo "want_moment").ok K,
  fun K => (He.Fa.glo "want_below").ok K,
  fun K => (He.Fa.glo "moment_at").ok K,
  fun K => (He.Fa.glo "clock_of").ok K,
  fun K => (He.Fa.glo "show_moment").ok K,
  fun K => (He.Fa.glo "are_figures").ok K,
  fun K => (He.Fa.glo "number_of").ok K,
  fun K => (He.Fa.glo "day_of").ok K,
  fun K => (He.Fa.glo "read_moment").ok K,
  fun K => (He.Fa.glo "_law_pot").ok K,
  fun K => (He.Fa.glo "_law_take").ok K,
  fun K => (He.Fa.glo "_law_great").ok K,
  fun K => (He.Fa.glo "_law_no_number").ok K,
  fun K => (He.Fa.glo "_law_no_moment").ok K,
  fun K => (He.Fa.glo "_law_no_text").ok K,
  fun K => (He.Fa.glo "_law_asked").ok K,
  fun K => (He.Fa.glo "_law_refused").ok K,
  fun K => (He.Fa.glo "_law_good").ok K,
  fun K => (He.Fa.glo "law").ok K,
  fun K => (He.Fa.int "HOUR" (60)).ok K,
  fun K => (He.Fa.int "DAY" (1440)).ok K,
  fun K => (He.Fa.int "HOURS" (24)).ok K,
  fun K => (He.Fa.str "FIGURES" "0123456789").ok K,
  fun K => (He.Fa.str "COLON" ":").ok K,
  fun K => (He.Fa.str "BLANK" " ").ok K,
  fun K => (He.Fa.free "ValueError").ok K,
  fun K => (He.Fa.free "all").ok K,
  fun K => (He.Fa.free "bool").ok K,
  fun K => (He.Fa.free "divmod").ok K,
  fun K => (He.Fa.free "int").ok K,
  fun K => (He.Fa.free "isinstance").ok K,
  fun K => (He.Fa.free "len").ok K,
  fun K => (He.Fa.free "max").ok K,
  fun K => (He.Fa.free "min").ok K,
  fun K => (He.Fa.free "range").ok K,
  fun K => (He.Fa.free "repr").ok K,
  fun K => (He.Fa.free "str").ok K,
  fun K => (He.Fa.glo "GoingError").ok K,
  exoB bmV "ValueError.__new__" "GoingError",
  fun K => (He.Fa.glo "LackError").ok K,
  exoB bmL "LookupError.__new__" "LackError",
  fun K => (He.Fa.glo "BookError").ok K,
  exoB bmR "RuntimeError.__new__" "BookError",
  fun K => (He.Fa.glo "NoTime").ok K,
  exoB bmV "ValueError.__new__" "NoTime",
  fun K => (He.Fa.glo "NoPiece").ok K,
  exoB bmV "ValueError.__new__" "NoPiece",
  fun K => (He.Fa.glo "NoDays").ok K,
  exoB bmV "ValueError.__new__" "NoDays",
  fun K => (He.Fa.glo "NoCard").ok K,
  exoB bmV "ValueError.__new__" "NoCard",
  fun K => (He.Fa.glo "NoName").ok K,
  exoB bmV "ValueError.__new__" "NoName",
  fun K => (He.Fa.glo "NoRow").ok K,
  exoB bmV "ValueError.__new__" "NoRow",
  fun K => (He.Fa.glo "NoText").ok K,
  sysB,
  excCB "NoTime",
  kitF "NoTime" "GoingError" true,
  kitF "NoTime" "LackError" false,
  kitF "NoTime" "BookError" false,
  kitF "NoTime" "NoTime" true,
  kitF "NoTime" "NoPiece" false,
  kitF "NoTime" "NoDays" false,
  kitF "NoTime" "NoCard" false,
  kitF "NoTime" "NoName" false,
  kitF "NoTime" "NoRow" false,
  kitF "NoTime" "NoText" false,
  kitFT "NoTime" "ValueError" true,
  kitFT "NoTime" "LookupError" false,
  kitFT "NoTime" "RuntimeError" false,
  exm3F "NoTime" ["GoingError", "LackError", "BookError"]]
def d_NoText_init : He.DefD := ⟨("NoText", some "__init__"), "__init__", "NoText.__init__", defArgs s_NoText_init, defBody s_NoText_init, defScope s_NoText_init, [], []⟩
def d_is_whole : He.DefD := ⟨("is_whole", none), "is_whole", "is_whole", defArgs s_is_whole, defBody s_is_whole, defScope s_is_whole, [], []⟩
def d_is_moment : He.DefD := ⟨("is_moment", none), "is_moment", "is_moment", defArgs s_is_moment, defBody s_is_moment, defScope s_is_moment, [], []⟩
def d_want_moment : He.DefD := ⟨("want_moment", none), "want_moment", "want_moment", defArgs s_want_moment, defBody s_want_moment, defScope s_want_moment, [], []⟩
def d_want_below : He.DefD := ⟨("want_below", none), "want_below", "want_below", defArgs s_want_below, defBody s_want_below, defScope s_want_below, [], []⟩
def d_moment_at : He.DefD := ⟨("moment_at", none), "moment_at", "moment_at", defArgs s_moment_at, defBody s_moment_at, defScope s_moment_at, [.int (0), .int (0), .int (0)], []⟩
def d_clock_of : He.DefD := ⟨("clock_of", none), "clock_of", "clock_of", defArgs s_clock_of, defBody s_clock_of, defScope s_clock_of, [], []⟩
def d_show_moment : He.DefD := ⟨("show_moment", none), "show_moment", "show_moment", defArgs s_show_moment, defBody s_show_moment, defScope s_show_moment, [], []⟩
def d_are_figures : He.DefD := ⟨("are_figures", none), "are_figures", "are_figures", defArgs s_are_figures, defBody s_are_figures, defScope s_are_figures, [], []⟩
def d_number_of : He.DefD := ⟨("number_of", none), "number_of", "number_of", defArgs s_number_of, defBody s_number_of, defScope s_number_of, [], []⟩
def d_day_of : He.DefD := ⟨("day_of", none), "day_of", "day_of", defArgs s_day_of, defBody s_day_of, defScope s_day_of, [], []⟩
def d_read_moment : He.DefD := ⟨("read_moment", none), "read_moment", "read_moment", defArgs s_read_moment, defBody s_read_moment, defScope s_read_moment, [], []⟩
def d__law_pot : He.DefD := ⟨("_law_pot", none), "_law_pot", "_law_pot", defArgs s__law_pot, defBody s__law_pot, defScope s__law_pot, [], []⟩
def d__law_take : He.DefD := ⟨("_law_take", none), "_law_take", "_law_take", defArgs s__law_take, defBody s__law_take, defScope s__law_take, [], []⟩
def d__law_great : He.DefD := ⟨("_law_great", none), "_law_great", "_law_great", defArgs s__law_great, defBody s__law_great, defScope s__law_great, [], []⟩
def d__law_no_number : He.DefD := ⟨("_law_no_number", none), "_law_no_number", "_law_no_number", defArgs s__law_no_number, defBody s__law_no_number, defScope s__law_no_number, [], []⟩
def d__law_no_moment : He.DefD := ⟨("_law_no_moment", none), "_law_no_moment", "_law_no_moment", defArgs s__law_no_moment, defBody s__law_no_moment, defScope s__law_no_moment, [], []⟩
def d__law_no_text : He.DefD := ⟨("_law_no_text", none), "_law_no_text", "_law_no_text", defArgs s__law_no_text, defBody s__law_no_text, defScope s__law_no_text, [], []⟩
def d__law_asked : He.DefD := ⟨("_law_asked", none), "_law_asked", "_law_asked", defArgs s__law_asked, defBody s__law_asked, defScope s__law_asked, [], []⟩
def d__law_refused : He.DefD := ⟨("_law_refused", none), "_law_refused", "_law_refused", defArgs s__law_refused, defBody s__law_refused, defScope s__law_refused, [], []⟩
def d__law_good : He.DefD := ⟨("_law_good", none), "_law_good", "_law_good", defArgs s__law_good, defBody s__law_good, defScope s__law_good, [], []⟩
def d_law : He.DefD := ⟨("law", none), "law", "law", defArgs s_law, defBody s_law, defScope s_law, [], []⟩
def fn : List He.DefD := [d_NoText_init, d_is_whole, d_is_moment, d_want_moment, d_want_below, d_moment_at, d_clock_of, d_show_moment, d_are_figures, d_number_of, d_day_of, d_read_moment, d__law_pot, d__law_take, d__law_great, d__law_no_number, d__law_no_moment, d__law_no_text, d__law_asked, d__law_refused, d__law_good, d_law]
abbrev R : PySem.W.OpenRow := PySem.W.OpenLaw.row PySem.Challenge.rw_shortgoings_k15_what_is_no_moment
abbrev hk : PySem.W.Hook := hookX 6 xf fn
def ob (s : PySem.W.SharedT) : He.AlD := obsXG 6 xf fn (HandSHeadRun.getT s)
theorem ob_eq (s : PySem.W.SharedT) : ob s = hk.obs s.abs := obsXG_eq (HandSHeadRun.getT_eq s)
def ns0 : List PySem.Str := ["GoingError", "LackError", "BookError", "NoTime", "NoPiece", "NoDays", "NoCard", "NoName", "NoRow", "NoText", "HOUR", "DAY", "HOURS", "FIGURES", "COLON", "BLANK", "is_whole", "is_moment", "want_moment", "want_below", "moment_at", "clock_of", "show_moment", "are_figures", "number_of", "day_of", "read_moment", "_law_pot", "_law_take", "_law_great"]
def ns1 : List PySem.Str := ["_law_no_number", "_law_no_moment", "_law_no_text", "_law_asked", "_law_refused", "_law_good"]
def nss : List PySem.Str := ns0 ++ ns1
theorem run (w : World) : HandSHeadRun.RunEq R (PySem.W.view R.prog [39]) hk ob 6000 nss w := by
  intro os
  kernel_rfl
theorem env_of {K : PySem.W.Frag} {h : Heap} {mg : Str → Option Value} (X : K.In h) (G : h.Ns mainGlobals mg) (c : SaysX xf fn K) : Env K mg :=
  ⟨He.glo_ok X G (c.fact 0 (f := fun K => (He.Fa.glo "is_whole").ok K) rfl),
  He.glo_ok X G (c.fact 1 (f := fun K => (He.Fa.glo "is_moment").ok K) rfl),
  He.glo_ok X G (c.fact 2 (f := fun K => (He.Fa.glo "want_moment").ok K) rfl),
  He.glo_ok X G (c.fact 3 (f := fun K => (He.Fa.glo "want_below").ok K) rfl),
  He.glo_ok X G (c.fact 4 (f := fun K => (He.Fa.glo "moment_at").ok K) rfl),
  He.glo_ok X G (c.fact 5 (f := fun K => (He.Fa.glo "clock_of").ok K) rfl),
  He.glo_ok X G (c.fact 6 (f := fun K => (He.Fa.glo "show_moment").ok K) rfl),
  He.glo_ok X G (c.fact 7 (f := fun K => (He.Fa.glo "are_figures").ok K) rfl),
  He.glo_ok X G (c.fact 8 (f := fun K => (He.Fa.glo "number_of").ok K) rfl),
  He.glo_ok X G (c.fact 9 (f := fun K => (He.Fa.glo "day_of").ok K) rfl),
  He.glo_ok X G (c.fact 10 (f := fun K => (He.Fa.glo "read_moment").ok K) rfl),
  He.glo_ok X G (c.fact 11 (f := fun K => (He.Fa.glo "_law_pot").ok K) rfl),
  He.glo_ok X G (c.fact 12 (f := fun K => (He.Fa.glo "_law_take").ok K) rfl),
  He.glo_ok X G (c.fact 13 (f := fun K => (He.Fa.glo "_law_great").ok K) rfl),
  He.glo_ok X G (c.fact 14 (f := fun K => (He.Fa.glo "_law_no_number").ok K) rfl),
  He.glo_ok X G (c.fact 15 (f := fun K => (He.Fa.glo "_law_no_moment").ok K) rfl),
  He.glo_ok X G (c.fact 16 (f := fun K => (He.Fa.glo "_law_no_text").ok K) rfl),
  He.glo_ok X G (c.fact 17 (f := fun K => (He.Fa.glo "_law_asked").ok K) rfl),
  He.glo_ok X G (c.fact 18 (f := fun K => (He.Fa.glo "_law_refused").ok K) rfl),
  He.glo_ok X G (c.fact 19 (f := fun K => (He.Fa.glo "_law_good").ok K) rfl),
  He.glo_ok X G (c.fact 20 (f := fun K => (He.Fa.glo "law").ok K) rfl),
  gint_of X G (c.fact 21 (f := fun K => (He.Fa.int "HOUR" (60)).ok K) rfl),
  gint_of X G (c.fact 22 (f := fun K => (He.Fa.int "DAY" (1440)).ok K) rfl),
  gint_of X G (c.fact 23 (f := fun K => (He.Fa.int "HOURS" (24)).ok K) rfl),
  gstr_of X G (c.fact 24 (f := fun K => (He.Fa.str "FIGURES" "0123456789").ok K) rfl),
  gstr_of X G (c.fact 25 (f := fun K => (He.Fa.str "COLON" ":").ok K) rfl),
  gstr_of X G (c.fact 26 (f := fun K => (He.Fa.str "BLANK" " ").ok K) rfl),
  He.free_ok X G (c.fact 27 (f := fun K => (He.Fa.free "ValueError").ok K) rfl),
  He.free_ok X G (c.fact 28 (f := fun K => (He.Fa.free "all").ok K) rfl),
  He.free_ok X G (c.fact 29 (f := fun K => (He.Fa.free "bool").ok K) rfl),
  He.free_ok X G (c.fact 30 (f := fun K => (He.Fa.free "divmod").ok K) rfl),
  He.free_ok X G (c.fact 31 (f := fun K => (He.Fa.free "int").ok K) rfl),
  He.free_ok X G (c.fact 32 (f := fun K => (He.Fa.free "isinstance").ok K) rfl),
  He.free_ok X G (c.fact 33 (f := fun K => (He.Fa.free "len").ok K) rfl),
  He.free_ok X G (c.fact 34 (f := fun K => (He.Fa.free "max").ok K) rfl),
  He.free_ok X G (c.fact 35 (f := fun K => (He.Fa.free "min").ok K) rfl),
  He.free_ok X G (c.fact 36 (f := fun K => (He.Fa.free "range").ok K) rfl),
  He.free_ok X G (c.fact 37 (f := fun K => (He.Fa.free "repr").ok K) rfl),
  He.free_ok X G (c.fact 38 (f := fun K => (He.Fa.free "str").ok K) rfl),
  He.glo_ok X G (c.fact 39 (f := fun K => (He.Fa.glo "GoingError").ok K) rfl),
  exo_of (c.fact 40 (f := exoB bmV "ValueError.__new__" "GoingError") rfl),
  He.glo_ok X G (c.fact 41 (f := fun K => (He.Fa.glo "LackError").ok K) rfl),
  exo_of (c.fact 42 (f := exoB bmL "LookupError.__new__" "LackError") rfl),
  He.glo_ok X G (c.fact 43 (f := fun K => (He.Fa.glo "BookError").ok K) rfl),
  exo_of (c.fact 44 (f := exoB bmR "RuntimeError.__new__" "BookError") rfl),
  He.glo_ok X G (c.fact 45 (f := fun K => (He.Fa.glo "NoTime").ok K) rfl),
  exo_of (c.fact 46 (f := exoB bmV "ValueError.__new__" "NoTime") rfl),
  He.glo_ok X G (c.fact 47 (f := fun K => (He.Fa.glo "NoPiece").ok K) rfl),
  exo_of (c.fact 48 (f := exoB bmV "ValueError.__new__" "NoPiece") rfl),
  He.glo_ok X G (c.fact 49 (f := fun K => (He.Fa.glo "NoDays").ok K) rfl),
  exo_of (c.fact 50 (f := exoB bmV "ValueError.__new__" "NoDays") rfl),
  He.glo_ok X G (c.fact 51 (f := fun K => (He.Fa.glo "NoCard").ok K) rfl),
  exo_of (c.fact 52 (f := exoB bmV "ValueError.__new__" "NoCard") rfl),
  He.glo_ok X G (c.fact 53 (f := fun K => (He.Fa.glo "NoName").ok K) rfl),
  exo_of (c.fact 54 (f := exoB bmV "ValueError.__new__" "NoName") rfl),
  He.glo_ok X G (c.fact 55 (f := fun K => (He.Fa.glo "NoRow").ok K) rfl),
  exo_of (c.fact 56 (f := exoB bmV "ValueError.__new__" "NoRow") rfl),
  He.glo_ok X G (c.fact 57 (f := fun K => (He.Fa.glo "NoText").ok K) rfl),
  sys_of (c.fact 58 (f := sysB) rfl),
  excC_of (c.fact 59 (f := excCB "NoTime") rfl),
  of_decide_eq_true (c.fact 60 (f := kitF "NoTime" "GoingError" true) rfl),
  of_decide_eq_true (c.fact 61 (f := kitF "NoTime" "LackError" false) rfl),
  of_decide_eq_true (c.fact 62 (f := kitF "NoTime" "BookError" false) rfl),
  of_decide_eq_true (c.fact 63 (f := kitF "NoTime" "NoTime" true) rfl),
  of_decide_eq_true (c.fact 64 (f := kitF "NoTime" "NoPiece" false) rfl),
  of_decide_eq_true (c.fact 65 (f := kitF "NoTime" "NoDays" false) rfl),
  of_decide_eq_true (c.fact 66 (f := kitF "NoTime" "NoCard" false) rfl),
  of_decide_eq_true (c.fact 67 (f := kitF "NoTime" "NoName" false) rfl),
  of_decide_eq_true (c.fact 68 (f := kitF "NoTime" "NoRow" false) rfl),
  of_decide_eq_true (c.fact 69 (f := kitF "NoTime" "NoText" false) rfl),
  of_decide_eq_true (c.fact 70 (f := kitFT "NoTime" "ValueError" true) rfl),
  of_decide_eq_true (c.fact 71 (f := kitFT "NoTime" "LookupError" false) rfl),
  of_decide_eq_true (c.fact 72 (f := kitFT "NoTime" "RuntimeError" false) rfl),
  of_decide_eq_true (c.fact 73 (f := exm3F "NoTime" ["GoingError", "LackError", "BookError"]) rfl),
  c.def_ 0 (d := d_NoText_init) rfl,
  c.def_ 1 (d := d_is_whole) rfl,
  c.def_ 2 (d := d_is_moment) rfl,
  c.def_ 3 (d := d_want_moment) rfl,
  c.def_ 4 (d := d_want_below) rfl,
  c.def_ 5 (d := d_moment_at) rfl,
  c.def_ 6 (d := d_clock_of) rfl,
  c.def_ 7 (d := d_show_moment) rfl,
  c.def_ 8 (d := d_are_figures) rfl,
  c.def_ 9 (d := d_number_of) rfl,
  c.def_ 10 (d := d_day_of) rfl,
  c.def_ 11 (d := d_read_moment) rfl,
  c.def_ 12 (d := d__law_pot) rfl,
  c.def_ 13 (d := d__law_take) rfl,
  c.def_ 14 (d := d__law_great) rfl,
  c.def_ 15 (d := d__law_no_number) rfl,
  c.def_ 16 (d := d__law_no_moment) rfl,
  c.def_ 17 (d := d__law_no_text) rfl,
  c.def_ 18 (d := d__law_asked) rfl,
  c.def_ 19 (d := d__law_refused) rfl,
  c.def_ 20 (d := d__law_good) rfl,
  c.def_ 21 (d := d_law) rfl⟩
end Toy
open PySem PySem.W PySem.Calls PyProof.Rows
set_option maxRecDepth 100000 in
set_option maxHeartbeats 0 in
theorem PySem.Challenge.cw_shortgoings_k15_what_is_no_moment_holds : PySem.Challenge.rw_shortgoings_k15_what_is_no_moment.Holds := by
  w_on; o_law
  refine HandSHeadRun.head_any (r := OpenLaw.row PySem.Challenge.rw_shortgoings_k15_what_is_no_moment) (q := view (OpenLaw.row PySem.Challenge.rw_shortgoings_k15_what_is_no_moment).prog [39]) (H := Toy.hk) (ob := Toy.ob) (M := 6000) (loose := Toy.nss) (d := HandSHeadRun.topDef (OpenLaw.row PySem.Challenge.rw_shortgoings_k15_what_is_no_moment).prog 39) (kwd := []) Toy.ob_eq
    (by kernel_rfl) (fun s => by kernel_rfl) Toy.run (by kernel_rfl) (by kernel_rfl) (by kernel_rfl) (by rfl) (by first | assumption | decide +kernel) (by decide +kernel) ⟨rfl, rfl, rfl, rfl, rfl, by decide +kernel⟩ ?hw ?hc
  case hw => w_witness2
  case hc =>
    refine L3.walk_end (l := PySem.Challenge.rw_shortgoings_k15_what_is_no_moment) (n := 63) (k := 9) (x := "_law_script") rfl (by decide) (by kernel_rfl) (L3.rm_caller.mono (by decide)) ?F
    intro w mg fa h Y G hmg0
    obtain ⟨K, KX, c⟩ := Y
    have hmg : mg ("law" : PySem.Str) = some (.ref fa) := by
      have e : (HandSHeadRun.topDef (OpenLaw.row PySem.Challenge.rw_shortgoings_k15_what_is_no_moment).prog 39).name = ("law" : PySem.Str) := by kernel_rfl
      rw [← e]
      exact hmg0
    have T := Toy.env_of KX G c
    have e := hmg.symm.trans T.g_law
    cases e
    obtain ⟨fd, F⟩ := T.f_law
    have b := L2.FunD.bindsA (ps := ["_law_script"]) F fun _ _ _ _ _ _ us hl => match us, hl with | [_], _ => rfl
    exact ⟨K, fd, Toy.sp_law K, KX, fun s v => b s [v] rfl, fun H a ns hl hS => ⟨a, ns, rfl, hS, hl, fun _ => rfl⟩, fun base _ _ => Toy.ok_law T F⟩
