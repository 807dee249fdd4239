import PyProof.Rows.All
import Wide.All
import OpenK.AllK
import Wide.FinOn
import PyProof.EqAt
import PyProof.EqKinds
import PyProof.TupleCall
import HandS.ForMost
import HandS.ForExc
import HandS.Defaults
import HandS.MakeKwOnly
import HandS.WideBits
import HandS.IsInst
import HandS.Flow
import HandS.Style
import HandS.Evl
import HandS.StrMore
import HandS.TupAny
import HandS.SortInts
import HandS.RaiseMore
import HandS.Zip
import HandS.Head0
import HandS.Head1
import HandS.Head2
import HandS.HeadEnd
import HandS.HeadHook1
import HandS.HeadHook2
import HandS.Walk
import PyProof.Rows.StrJoinRep
import PyProof.StrLawsLast
import HandS.Codes
import HandS.ExcIs
import KE.KTryMore
import KE.KFmtOwn
import PyProof.InstSpecial
import HandS.TryOnly
import HandS.FStr
import HandS.Conv
import HandS.SetFor
import HandS.Strs
import HandS.OwnEq
import HandS.Deep
import PySem.Challenge.RW_shortgoings_k46_texts_of_no_days
set_option Elab.async false
set_option linter.all false
set_option maxRecDepth 100000
set_option maxHeartbeats 4000000
namespace L3
open PySem PySem.Spec PyProof.Rows L2
/-! ### room, with the guards of repr told -/
structure Rm (k : Nat) (A : Around) : Prop where
  rm : Room k A
  gd : A.guards = some []
theorem Rm.mono {j k : Nat} {A : Around} (r : Rm k A) (h : j ≤ k) : Rm j A := ⟨r.rm.mono h, r.gd⟩
theorem Rm.deeper {k : Nat} {A : Around} (r : Rm (k + 1) A) (env : Env) : Rm k (A.deeper env) := ⟨r.rm.deeper env, r.gd⟩
theorem make_guards {A : Around} {C : Addr} {us : List Value} {kw : List (Str × Value)} : (A.under (.builtin "type.__call__" ⟨.ref C :: us, kw⟩)).guards = A.guards := by
  have e : Code.guards (.builtin "type.__call__" ⟨.ref C :: us, kw⟩) = [] := by
    first | rfl | simp [Code.guards, Code.isGuard, guardIds]
  show pushGuards (Code.guards (.builtin "type.__call__" ⟨.ref C :: us, kw⟩)) A.guards = A.guards
  rw [e]
  cases A.guards <;> rfl
theorem Rm.make {k : Nat} {A : Around} (r : Rm (k + 1) A) (C : Addr) (us : List Value) (kw : List (Str × Value)) : Rm k (A.under (.builtin "type.__call__" ⟨.ref C :: us, kw⟩)) :=
  ⟨r.rm.make C us kw, make_guards.trans r.gd⟩
/-! ### a def's body -/
structure Fb (P : Program) (w : World) (K : PySem.W.Frag) (mg : Str → Option Value) (base : Heap) (k : Nat) (f : Addr) (fd : FuncData) (ps : List Str) (sp : Sp) : Prop where
  len : ∀ vs H Q E, sp vs H Q E → vs.length = ps.length
  run : ∀ (A : Around) (outer : List Env) (s : Shared) (H : Hp) (args : Args) (us : List Value) (vs : List V) (Q : VK) (E : XK), Rm k A → Env0 P w K mg base A outer s H → BindsTo s fd args (ps.zip us) → Vals vs us → sp vs H Q E →
    codeAny (model P w) A (.call (.ref f) args) (CR (L2.CX P w) outer P w H s Q E) s
section
variable {P : Program} {w : World} {K : PySem.W.Frag} {mg : Str → Option Value} {base : Heap} {x qual : Str} {params : Arguments} {body : List Stmt} {scope : Scope} {dvs : List V} {kws : List (Str × V)} {f : Addr} {fd : FuncData} {k : Nat} {ps N : List Str} {sp : Sp}
theorem fb_of (F : FunD K x qual params body scope dvs kws f fd) (S : FnScope N ps scope) (len : ∀ vs H Q E, sp vs H Q E → vs.length = ps.length)
    (hbody : ∀ (cdv : Value) (A : Around) (outer : List Env) (s : Shared) (H : Hp) (vs : List V) (Q : VK) (E : XK), Rm k (A.deeper (envOfC qual scope s.heap.objs.size f cdv)) → sp vs H Q E →
      ∃ t, PSs (cxOf (L2.CX P w) P w K mg base N qual scope f cdv A outer s H E) body t ∧ t { nx := fun _ H' => Q .non H', rt := Q } (start N vs) H) : Fb P w K mg base (k + 1) f fd ps sp := by
  obtain ⟨oc, od, dV, kV, doc, pm, an, cdv, ct, osl, rfl, lk, hcd, _, _⟩ := F.ex
  refine ⟨len, fun A outer s H args us vs Q E hr e0 hb r hsp => ?_⟩
  have hl := len _ _ _ _ hsp
  have KX : K.In s.heap := e0.mod.kin.keeps fun b o e => (e0.bs b o e).1
  have lim : s.heap.NoLimit := e0.mod.nolimit.keeps fun b o e => (e0.bs b o e).1
  have hkind : ∀ y ∈ ps.zip us, scope.names.lookup y.1 = some .local ∨ (scope.names.lookup y.1 = some .cell ∧ ((cellsFrom (s.heap.objs.size + 1) scope.names []).lookup y.1).isSome = true) := fun ⟨n, v⟩ hy => by
    rcases S.par n (List.of_mem_zip hy).1 with q | q
    · exact .inl q
    · exact .inr ⟨q, PySem.W.cellsFrom_some _ _ _ (.inl q)⟩
  refine codeAny_call_function hr.rm.depth (KX _ _ lk) rfl S.co S.gen rfl (PySem.W.codeRec_of KX hcd) (hb _ _ _ _ ?_)
  refine wpAny_newFunctionEnv_cells S.kind hkind fun env he s1 x => ?_
  subst he
  refine ⟨lim.keeps x.toInCall.keep, codeAny_func ?_⟩
  obtain ⟨t, ht, hq⟩ := hbody cdv A outer s H vs Q E (hr.deeper _) hsp
  have I : Inv (cxOf (L2.CX P w) P w K mg base N qual scope f cdv A outer s H E) [] (start N vs) H s1 := inv_start S hr.rm.hd e0 hl r x
  refine wpAny_mono (ht.run [] s1 (start N vs) H _ I hq) (fun fl s' hs => ?_) fun e s' hs => hs
  have fin : ∀ {σ' : L2.St} {H' : Hp} {v : V} {u : Value}, Inv (cxOf (L2.CX P w) P w K mg base N qual scope f cdv A outer s H E) [] σ' H' s' → RelV v u → Q v H' → CE outer P w H s Q u s' :=
    fun {σ' H' v u} J rv q => ⟨v, H', J.os, J.bare, J.base, J.hok, rv, q⟩
  cases fl with
  | ret u =>
    obtain ⟨v, σ', H', J, rv, q⟩ := hs
    exact fin J rv q
  | next =>
    obtain ⟨σ', H', J, q⟩ := hs
    exact fin (v := V.non) (u := Value.none) J rfl q
  | brk =>
    obtain ⟨_, _, _, q⟩ := hs
    exact False.elim q
  | cont =>
    obtain ⟨_, _, _, q⟩ := hs
    exact False.elim q
theorem Fb.mono {j : Nat} (F : Fb P w K mg base j f fd ps sp) (h : j ≤ k) : Fb P w K mg base k f fd ps sp := ⟨F.len, fun A outer s H args us vs Q E hr => F.run A outer s H args us vs Q E (hr.mono h)⟩
theorem Fb.imp {sp' : Sp} (F : Fb P w K mg base k f fd ps sp) (h : ∀ vs H Q E, sp' vs H Q E → sp vs H Q E) : Fb P w K mg base k f fd ps sp' :=
  ⟨fun vs H Q E q => F.len vs H Q E (h _ _ _ _ q), fun A outer s H args us vs Q E hr he hb hv hs => F.run A outer s H args us vs Q E hr he hb hv (h _ _ _ _ hs)⟩
/-! ### a call of one shape: positional values us, keywords ks -/
def Fc (P : Program) (w : World) (K : PySem.W.Frag) (mg : Str → Option Value) (base : Heap) (k : Nat) (f : Addr) (ks : List Str) (sp : Sp) : Prop :=
  ∀ (A : Around) (outer : List Env) (s : Shared) (H : Hp) (us ws : List Value) (vs : List V) (Q : VK) (E : XK), Rm k A → Env0 P w K mg base A outer s H → Vals vs (us ++ ws) → ws.length = ks.length → sp vs H Q E →
    codeAny (model P w) A (.call (.ref f) ⟨us, ks.zip ws⟩) (CR (L2.CX P w) outer P w H s Q E) s
theorem Fc.mono {j : Nat} {ks : List Str} (F : Fc P w K mg base j f ks sp) (h : j ≤ k) : Fc P w K mg base k f ks sp := fun A outer s H us ws vs Q E hr => F A outer s H us ws vs Q E (hr.mono h)
theorem Fc.imp {sp' : Sp} {ks : List Str} (F : Fc P w K mg base k f ks sp) (h : ∀ vs H Q E, sp' vs H Q E → sp vs H Q E) : Fc P w K mg base k f ks sp' :=
  fun A outer s H us ws vs Q E hr he hv hl hs => F A outer s H us ws vs Q E hr he hv hl (h _ _ _ _ hs)
/-- every parameter is given by place -/
theorem Fb.all (F : Fb P w K mg base k f fd ps sp) (hb : Binds K fd ps []) : Fc P w K mg base k f [] sp := fun A outer s H us ws vs Q E hr e0 r hl h => by
  cases ws with
  | cons w ws => cases hl
  | nil =>
    rw [List.append_nil] at r
    have KX : K.In s.heap := e0.mod.kin.keeps fun b o e => (e0.bs b o e).1
    have l2 : us.length = ps.length := by rw [← r.length]; exact F.len _ _ _ _ h
    have b := hb s us KX (by rw [List.append_nil]; exact l2)
    rw [List.append_nil] at b
    exact F.run A outer s H ⟨us, []⟩ us vs Q E hr e0 b r h
/-- some by place, some by name, some left out: g puts the given ones and the defaults into the parameters' order -/
theorem Fb.shape (D : FunD K x qual params body scope dvs kws f fd) (F : Fb P w K mg base k f fd ps sp) (n : Nat) (ks : List Str) (g : {α : Type} → List α → List α → List α) (hd : dvs ≠ [])
    (hrel : ∀ {vs ds : List V} {us its : List Value}, Vals vs us → Vals ds its → Vals (g vs ds) (g us its))
    (h : ∀ (T : Addr) (kV doc pm : Value) (an : Option Addr) (cdv ct : Value) (us ws its : List Value), us.length = n → ws.length = ks.length → its.length = dvs.length →
      ∃ k, bindArgs (PySem.W.fnOf x qual params body scope (.ref T) kV doc pm an cdv ct) ⟨us, ks.zip ws⟩ = seqItems? (.ref T) >>= k ∧ k (some its.toArray) = pure (ps.zip (g (us ++ ws) its))) :
    Fc P w K mg base k f ks (fun vs H Q E => vs.length = n + ks.length ∧ sp (g vs dvs) H Q E) := by
  obtain ⟨oc, od, dV, kV, doc, pm, an, cdv, ct, osl, rfl, lk, hcd, hD, hK⟩ := D.ex
  rcases hD with ⟨e, _⟩ | ⟨_, T, o, its, m, rfl, lT, oT, rT⟩
  · exact absurd e hd
  · intro A outer s H us ws vs Q E hr e0 r hl hsp
    have KX : K.In s.heap := e0.mod.kin.keeps fun b o e => (e0.bs b o e).1
    have l1 : its.length = dvs.length := rT.length.symm
    have l2 : us.length = n := by
      have e := r.length
      rw [hsp.1, List.length_append, hl] at e
      omega
    obtain ⟨k, e1, e2⟩ := h T kV doc pm an cdv ct us ws its l2 hl l1
    refine F.run A outer s H ⟨us, ks.zip ws⟩ (g (us ++ ws) its) (g vs dvs) Q E hr e0 (BindsTo.of_looks fun M => ?_) (hrel r rT) hsp.2
    rw [e1]
    exact looks_items KX lT oT (.of_pure e2)
/-- all parameters given, some by name, no defaults -/
theorem Fb.names (D : FunD K x qual params body scope [] kws f fd) (F : Fb P w K mg base k f fd ps sp) (n : Nat) (ks : List Str) (g : {α : Type} → List α → List α)
    (hrel : ∀ {vs : List V} {us : List Value}, Vals vs us → Vals (g vs) (g us))
    (h : ∀ (kV doc pm : Value) (an : Option Addr) (cdv ct : Value) (us ws : List Value), us.length = n → ws.length = ks.length →
      bindArgs (PySem.W.fnOf x qual params body scope .none kV doc pm an cdv ct) ⟨us, ks.zip ws⟩ = pure (ps.zip (g (us ++ ws)))) :
    Fc P w K mg base k f ks (fun vs H Q E => vs.length = n + ks.length ∧ sp (g vs) H Q E) := by
  obtain ⟨oc, od, dV, kV, doc, pm, an, cdv, ct, osl, rfl, lk, hcd, hD, hK⟩ := D.ex
  rcases hD with ⟨_, rfl⟩ | ⟨e, _⟩
  · intro A outer s H us ws vs Q E hr e0 r hl hsp
    have l2 : us.length = n := by
      have e := r.length
      rw [hsp.1, List.length_append, hl] at e
      omega
    exact F.run A outer s H ⟨us, ks.zip ws⟩ (g (us ++ ws)) (g vs) Q E hr e0 (.of_eq (h kV doc pm an cdv ct us ws l2 hl)) (hrel r) hsp.2
  · exact absurd rfl e
end
/-! ### calls -/
def tFc (sp : Sp) (W : WX) (t : TA) : TE := fun σ H Q => t σ H fun vs H1 => sp vs H1 Q (WE W σ)
def tFk (sp : Sp) (W : WX) (t tk : TA) : TE := fun σ H Q => t σ H fun vs H1 => tk σ H1 fun zs H2 => zs.length = zs.length ∧ sp (vs ++ zs) H2 Q (WE W σ)
section
variable {X : Cx} {k : Nat} {f C : Addr} {ks : List Str} {sp : Sp} {W : WX} {x m : Str} {p pos apos : Pos} {e o : Expr} {es : List Expr} {kws : List Keyword} {ta : TE} {t tk : TA}
theorem run_fc {pins : List (Addr × Obj)} {σ : L2.St} {H : Hp} {s : Shared} {Q : VK} {us ws : List Value} {vs : List V} (F : Fc X.prog X.w X.K X.mg X.base k f ks sp) (hr : Rm k X.A) (hx : Takes X W)
    (I : Inv X pins σ H s) (r : Vals vs (us ++ ws)) (hl : ws.length = ks.length) (h : sp vs H Q (WE W σ)) : wpAny (model X.prog X.w) X.A (call (.ref f) us (ks.zip ws)) (EP X pins σ Q) X.xe s := by
  refine wpAny_call (codeAny_mono (F X.A X.stack s H us ws vs Q (WE W σ) hr I.env0 r hl h) fun r s' hq => ?_)
  cases r with
  | error e => exact passAt hx σ pins H s e s' I hq
  | ok fl =>
    cases fl with
    | ret u => exact I.after hq
    | next => exact False.elim hq
    | brk => exact False.elim hq
    | cont => exact False.elim hq
/-- f(e, ..) -/
theorem c_call (F : Fc X.prog X.w X.K X.mg X.base k f [] sp) (hr : Rm k X.A) (hm : X.mg x = some (.ref f)) (hk : PySem.W.keepIn X.K (.ref f) = true) (hx : Takes X W)
    (ha : PA X (e :: es) t) (hg : Gl X x := by rfl) (hdb : (x == ("__debug__" : Str)) = false := by decide) (he : starEach (e :: es) X.env = (false, eval e X.env) :: starEach es X.env := by rfl) (hpl : (backTo pos (starEach es X.env)).any (·.1) = false := by rfl) :
    PE X (.Call (.Name x p) (e :: es) [] pos) (tFc sp W t) := by
  refine ⟨fun pins s σ H Q I h => ?_⟩
  refine wpAny_Call_Name_kw (ld_glob I hg hm ?_ hdb)
  refine PySem.W.callWith_K (h₀ := X.base) I.ok.mod.kin hk (thn (ha.run pos pins s σ H _ I h) fun us s1 ⟨vs, H1, I1, r, q⟩ => ⟨I1.kIn, ?_⟩) he hpl
  exact run_fc (ws := []) F hr hx I1 (by rw [List.append_nil]; exact r) rfl q
/-- f() -/
theorem c_call0 (F : Fc X.prog X.w X.K X.mg X.base k f [] sp) (hr : Rm k X.A) (hm : X.mg x = some (.ref f)) (hk : PySem.W.keepIn X.K (.ref f) = true) (hx : Takes X W)
    (hg : Gl X x := by rfl) (hdb : (x == ("__debug__" : Str)) = false := by decide) : PE X (.Call (.Name x p) [] [] pos) (tFc sp W tNil) := by
  refine ⟨fun pins s σ H Q I h => ?_⟩
  refine wpAny_Call_Name_kw (ld_glob I hg hm ?_ hdb)
  exact PySem.W.callWith_K0 I.kIn hk (run_fc (us := []) (ws := []) F hr hx I .nil rfl h)
/-- f(e, .., k = v, ..) -/
theorem c_callK (F : Fc X.prog X.w X.K X.mg X.base k f ks sp) (hr : Rm k X.A) (hm : X.mg x = some (.ref f)) (hk : PySem.W.keepIn X.K (.ref f) = true) (hx : Takes X W)
    (ha : PA X (e :: es) t) (hkw : PK X kws tk) (hg : Gl X x := by rfl) (hall : (backToKw pos (keywordEach kws X.env)).all (·.1.isSome) = true := by rfl) (hks : (backToKw pos (keywordEach kws X.env)).filterMap (·.1) = ks := by rfl)
    (hdb : (x == ("__debug__" : Str)) = false := by decide) (he : starEach (e :: es) X.env = (false, eval e X.env) :: starEach es X.env := by rfl)
    (hpl : ((backTo pos (starEach (e :: es) X.env)).any (·.1) || (backToKw pos (keywordEach kws X.env)).any (·.1.isNone)) = false := by rfl) :
    PE X (.Call (.Name x p) (e :: es) kws pos) (fun σ H Q => t σ H fun vs H1 => tk σ H1 fun zs H2 => zs.length = ks.length ∧ sp (vs ++ zs) H2 Q (WE W σ)) := by
  refine ⟨fun pins s σ H Q I h => ?_⟩
  refine wpAny_Call_Name_kw (ld_glob I hg hm ?_ hdb)
  refine PySem.W.callWith_KW (h₀ := X.base) I.ok.mod.kin hk hall (thn (ha.run pos pins s σ H _ I h) fun us s1 ⟨vs, H1, I1, r, q⟩ => ?_) hpl he
  refine thn (hkw.run pos pins s1 σ H1 _ I1 q) fun ws s2 ⟨zs, H2, I2, rz, l2, q2⟩ => ⟨I2.kIn, ?_⟩
  rw [hks]
  exact run_fc F hr hx I2 (r.append rz) (rz.length.symm.trans l2) q2
/-- f(k = v, ..) -/
theorem c_callK0 (F : Fc X.prog X.w X.K X.mg X.base k f ks sp) (hr : Rm k X.A) (hm : X.mg x = some (.ref f)) (hk : PySem.W.keepIn X.K (.ref f) = true) (hx : Takes X W)
    (hkw : PK X kws tk) (hg : Gl X x := by rfl) (hall : (backToKw pos (keywordEach kws X.env)).all (·.1.isSome) = true := by rfl) (hks : (backToKw pos (keywordEach kws X.env)).filterMap (·.1) = ks := by rfl)
    (hdb : (x == ("__debug__" : Str)) = false := by decide)
    (hpl : ((backTo pos (starEach [] X.env)).any (·.1) || (backToKw pos (keywordEach kws X.env)).any (·.1.isNone)) = false := by rfl) :
    PE X (.Call (.Name x p) [] kws pos) (fun σ H Q => tk σ H fun zs H2 => zs.length = ks.length ∧ sp zs H2 Q (WE W σ)) := by
  refine ⟨fun pins s σ H Q I h => ?_⟩
  refine wpAny_Call_Name_kw (ld_glob I hg hm ?_ hdb)
  refine PySem.W.callWith_KW0 (h₀ := X.base) I.ok.mod.kin hk hall ?_ hpl
  refine thn (hkw.run pos pins s σ H _ I h) fun ws s2 ⟨zs, H2, I2, rz, l2, q2⟩ => ⟨I2.kIn, ?_⟩
  rw [hks]
  exact run_fc (us := []) F hr hx I2 rz (rz.length.symm.trans l2) q2
end
/-! ### repr of data -/
@[irreducible] def rRepr (K : PySem.W.Frag) : List V → Hp → VK → Prop := fun xs H Q => ∃ (a : Addr) (d : PyData), xs = [.ref a] ∧ Dp K H (.ref a) d ∧ d.hasDict = false ∧ d.showable = true ∧ d.depth ≤ 60 ∧ d.shown.length ≤ sizeLine ∧ Q (.str d.shown) H
theorem call_repr {X : Cx} {k : Nat} (hr : Rm k X.A) : CallR X (.builtin "repr") (rRepr X.K) := by
  intro pins s σ H xs us Q I r h
  unfold rRepr at h
  obtain ⟨a, d, rfl, hd, hnd, hs, hdp, hsz, q⟩ := h
  cases r with
  | cons r1 r2 =>
    cases r2
    obtain ⟨as, rd⟩ := Dp.reads I d (.ref a) _ hd r1
    obtain rfl : _ = Value.ref a := r1
    refine repr_of_reads' rd hs (PyData.noDict_hsm hnd) hr.gd (by have := hr.rm.un; omega) (fun _ _ e => e) (fun h' u tk hk => ?_) hsz
    exact ⟨.str d.shown, H, I.kept hk, ⟨u, rfl⟩, q⟩
/-! ### the law's end -/
theorem rm_caller : Rm 40 callerA := ⟨⟨rfl, by decide, by decide⟩, rfl⟩
section
variable {P : Program} {w : World} {K : PySem.W.Frag} {mg mb : Str → Option Value} {k : Nat} {fa a : Addr} {fd : FuncData} {x : Str} {sp : Sp} {s₁ : Shared} {vs : List Value} {ns : List Int}
/-- the law's call over one abstract heap, in which at most the script is tracked -/
theorem law_core (H : Hp) (KX : K.In s₁.heap) (hns : s₁.heap.Ns mainGlobals mg) (hb : s₁.heap.Ns builtinsNs mb) (hbb : ∀ x : Str, x ≠ "__name__" → mb x = bootBuiltins x) (hlim : s₁.heap.NoLimit) (hg : s₁.gens = #[])
    (ha : s₁.heap.get? a = some { cls := .type "list", data := .seq vs.toArray }) (hr : Rm k callerA)
    (F : ∀ base : Heap, K.In base → base.Ns mainGlobals mg → Fb P w K mg base k fa fd [x] sp) (hbind : ∀ (s : Shared) (u : Value), BindsTo s fd ⟨[u], []⟩ [(x, u)])
    (hO : Only H) (hsp : sp [.ref a] H (fun v _ => v = .bl true) fun _ _ _ => False) (hok : HOk P w H s₁.heap) (hA : ∀ b, H b ≠ none → b = a) (hK : H a ≠ none → K.lookup a = none) :
    codeAny (model P w) callerA (.call (.ref fa) ⟨[.ref a], []⟩) (fun r s' => r = .ok (.ret (.bool true)) ∧ OldK s₁.heap s'.heap ∧ s'.os = s₁.os ∧ AllBare s'.gens) s₁ := by
  have isA : ∀ {b : Addr} {u : HO}, H b = some u → b = a := fun {b u} q => hA b (fun z => nomatch (q.symm.trans z))
  have free : ∀ {b : Addr} {o : Obj} {es : Array DictEntry} {ep : Nat}, s₁.heap.get? b = some o → o.data = .dict es ep → H b = none := fun {b o es ep} e d => by
    cases q : H b with
    | none => rfl
    | some u =>
      have eb := isA q
      subst eb
      rw [ha] at e
      cases e
      cases (show Data.seq vs.toArray _ = Data.dict es ep from d)
  have nsK : ∀ {b : Addr} {m : Str → Option Value}, s₁.heap.Ns b m → (hidT s₁.heap H).Ns b m := fun {b m} ⟨o, es, ep, e, d, r⟩ => ⟨o, es, ep, hidT_get e (free e d), d, r⟩
  have inK : K.In (hidT s₁.heap H) := fun b o e => hidT_get (KX b o e) (by
    cases q : H b with
    | none => rfl
    | some u =>
      have eb := isA q
      subst eb
      rw [hK (fun z => nomatch (q.symm.trans z))] at e
      cases e)
  have hM : Mod K mg (hidT s₁.heap H) := ⟨inK, nsK hns, ⟨mb, nsK hb, hbb⟩, let ⟨mc, h1, h2⟩ := hlim; ⟨mc, nsK h1, h2⟩⟩
  have e0 : Env0 P w K mg (hidT s₁.heap H) callerA [] s₁ H := ⟨rfl, hM, fun b o e => of_hidT e, Nat.le_of_eq (hidT_size _ _), trivial, (fun b z => nomatch (show b ∈ ([] : List Addr) from z)), hok, .of_eq hg⟩
  refine codeAny_mono ((F _ inK (nsK hns)).run callerA [] s₁ H ⟨[.ref a], []⟩ [.ref a] [.ref a] _ _ hr e0 (hbind s₁ (.ref a)) (.cons rfl .nil) hsp) fun r s' h => ?_
  cases r with
  | error e =>
    obtain ⟨_, _, _, _, _, _, _, _, _, _, _, _, z⟩ := h
    exact z.elim
  | ok fl =>
    cases fl with
    | next => exact h.elim
    | brk => exact h.elim
    | cont => exact h.elim
    | ret u =>
      obtain ⟨v, H', os, bare, un, hok2, rv, rfl⟩ := h
      obtain rfl : u = Value.bool true := rv
      refine ⟨rfl, OldK.of_keep fun b o e => ?_, os, bare⟩
      cases q : H b with
      | none => exact un.keep b o e q (fun z => nomatch (show b ∈ ([] : List Addr) from z)) (fun z => nomatch z)
      | some u =>
        rcases hO b with z | ⟨ob, xs, z⟩
        · exact nomatch (q.symm.trans z)
        · have e1 := (hok b _ z).1
          have e2 := (hok2 b _ (un.frzs b ob _ z)).1
          rw [e] at e1
          cases e1
          exact e2
theorem law_end (KX : K.In s₁.heap) (hns : s₁.heap.Ns mainGlobals mg) (hb : s₁.heap.Ns builtinsNs mb) (hbb : ∀ x : Str, x ≠ "__name__" → mb x = bootBuiltins x) (hlim : s₁.heap.NoLimit) (hg : s₁.gens = #[])
    (ha : s₁.heap.get? a = some { cls := .type "list", data := .seq vs.toArray }) (hi : IntsAre vs ns) (hl : ns.length ≤ sizeLine) (hr : Rm k callerA)
    (F : ∀ base : Heap, K.In base → base.Ns mainGlobals mg → Fb P w K mg base k fa fd [x] sp) (hbind : ∀ (s : Shared) (u : Value), BindsTo s fd ⟨[u], []⟩ [(x, u)])
    (hsp : ∀ H : Hp, SqL K H a (ns.map V.int) → sp [.ref a] H (fun v _ => v = .bl true) fun _ _ _ => False) :
    codeAny (model P w) callerA (.call (.ref fa) ⟨[.ref a], []⟩) (fun r s' => r = .ok (.ret (.bool true)) ∧ OldK s₁.heap s'.heap ∧ s'.os = s₁.os ∧ AllBare s'.gens) s₁ := by
  have rv := vals_ints hi
  cases hk : K.lookup a with
  | some o =>
    have e := KX a o hk
    rw [ha] at e
    cases e
    have sq : SqL K (fun _ => none) a (ns.map V.int) := .inr ⟨_, vs.toArray, _, hk, rfl, rfl, rfl, by rw [List.size_toArray, hi.length]; exact hl, by simpa using rv⟩
    exact law_core (fun _ => none) KX hns hb hbb hlim hg ha hr F hbind (fun _ => .inl rfl) (hsp _ sq) (fun b u z => nomatch (show (none : Option HO) = some u from z)) (fun b z => absurd rfl z) fun z => absurd rfl z
  | none =>
    have h1 : ∀ b, b ≠ a → (upd (fun _ => none) a (.frz { cls := .type "list", data := .seq vs.toArray } (.lst (ns.map V.int)))) b = none := fun b n => upd_ne n
    refine law_core (upd (fun _ => none) a (.frz { cls := .type "list", data := .seq vs.toArray } (.lst (ns.map V.int)))) KX hns hb hbb hlim hg ha hr F hbind (fun b => ?_) (hsp _ (.inl (.inr ⟨_, upd_same⟩))) (fun b u z => ?_) (fun b z => ?_) fun _ => hk
    · by_cases n : b = a
      · subst n
        exact .inr ⟨_, _, upd_same⟩
      · exact .inl (h1 b n)
    · by_cases n : b = a
      · subst n
        rw [upd_same] at z
        cases z
        exact ⟨ha, by rw [List.length_map]; exact hl, vs, _, rv, ha⟩
      · rw [h1 b n] at z
        cases z
    · by_cases n : b = a
      · exact n
      · exact absurd (h1 b n) z
end
theorem walk_end {l : PySem.W.OpenLaw} {n k : Nat} {q : Program} {loose : List Str} {XP : (Str → Option Value) → Heap → Prop} {YP : World → Heap → Prop} {d : DefRec} {x : Str}
    (hn : l.most = some n) (hn2 : n ≤ sizeLine) (hdf : d.params.defaults = []) (hr : Rm k callerA)
    (F : ∀ (w : World) (mg : Str → Option Value) (fa : Addr) (h : Heap), YP w h → h.Ns mainGlobals mg → mg d.name = some (.ref fa) →
      ∃ (K : PySem.W.Frag) (fd : FuncData) (sp : Sp), K.In h ∧ (∀ (s : Shared) (u : Value), BindsTo s fd ⟨[u], []⟩ [(x, u)]) ∧
        (∀ (H : Hp) (a : Addr) (ns : List Int), ns.length ≤ n → SqL K H a (ns.map V.int) → sp [.ref a] H (fun v _ => v = .bl true) fun _ _ _ => False) ∧
        ∀ base : Heap, K.In base → base.Ns mainGlobals mg → Fb l.prog w K mg base k fa fd [x] sp) :
    PySem.W.WalkO q loose XP YP l.row.toRowW d [] (fun f vs => PySem.call f vs) := by
  refine Att.attach_call hn hdf fun w s₀ s₁ mg mb fa o pm cd doc a vs ns G Y ho hd hcd hmg hobj hints hlen hg => ?_
  obtain ⟨K, fd, sp, KX, hb, hsp, hF⟩ := F w mg fa _ Y G.T.g hmg
  exact law_end KX G.T.g G.T.b G.T.builtins G.T.nolimit hg hobj hints (Nat.le_trans hlen hn2) hr hF hb (fun H hS => hsp H a ns hlen hS)
end L3
set_option Elab.async false
set_option linter.all false
set_option maxRecDepth 100000
set_option maxHeartbeats 4000000
namespace L3
open PySem PySem.Spec PyProof.Rows L2
/-! ### the head's facts: any Bools of the written part, and the defs -/
abbrev Fx := PySem.W.Frag → Bool
def obsX (xf : List Fx) (fn : List He.DefD) (K : PySem.W.Frag) : He.AlD := ((xf.all fun p => p K) && fn.all fun d => d.ok K, fn.map fun d => He.fnW K d.at_)
def SaysX (xf : List Fx) (fn : List He.DefD) (K : PySem.W.Frag) : Prop := obsX xf fn K = He.valD fn
def obsXG (n : Nat) (xf : List Fx) (fn : List He.DefD) (g : Addr → Option Obj) : He.AlD := obsX xf fn (He.frG g (sysModules :: He.asD g n))
def hookX (n : Nat) (xf : List Fx) (fn : List He.DefD) : PySem.W.Hook where
  α := He.AlD
  obs := fun s => obsXG n xf fn s.heap.get?
  val := fun _ => He.valD fn
  says := fun _ h => ∃ K : PySem.W.Frag, K.In h ∧ SaysX xf fn K
  of := fun _ _ e => ⟨_, He.frG_in, e⟩
  keeps := fun _ _ _ ⟨K, hK, c⟩ k => ⟨K, PySem.W.Frag.In.keeps hK k, c⟩
theorem obsXG_eq {n : Nat} {xf : List Fx} {fn : List He.DefD} {g : Addr → Option Obj} {s : Shared} (h : ∀ a, g a = s.heap.get? a) : obsXG n xf fn g = (hookX n xf fn).obs s := by
  have e : g = s.heap.get? := funext h
  rw [e] <;> rfl
section
variable {xf : List Fx} {fn : List He.DefD} {K : PySem.W.Frag}
theorem SaysX.fact (c : SaysX xf fn K) (i : Nat) {f : Fx} (h : xf[i]? = some f := by rfl) : f K = true := by
  have c1 := (He.ba (show ((xf.all fun f => f K) && fn.all fun d => d.ok K) = true from congrArg (fun z : He.AlD => z.1) c)).1
  exact List.all_eq_true.mp c1 f (List.mem_of_getElem? h)
theorem SaysX.def_ (c : SaysX xf fn K) (i : Nat) {d : He.DefD} (h : fn[i]? = some d := by rfl) : ∃ fd, FunD K d.name d.qual d.params d.body d.scope (d.dvs K) (d.kws K) (He.fAd K d.at_) fd := by
  have c2 := (He.ba (show ((xf.all fun f => f K) && fn.all fun d => d.ok K) = true from congrArg (fun z : He.AlD => z.1) c)).2
  have e : fn.map (fun d => He.fnW K d.at_) = fn.map He.DefD.val := congrArg (fun z : He.AlD => z.2) c
  have e2 : (fn.map fun d => He.fnW K d.at_)[i]? = (fn.map He.DefD.val)[i]? := by rw [e]
  rw [List.getElem?_map, List.getElem?_map, h] at e2
  exact He.DefD.funD (Option.some.inj e2) (List.all_eq_true.mp c2 d (List.mem_of_getElem? h))
end
/-! ### an own exception class without __init__ -/
structure Exo (K : PySem.W.Frag) (C : Addr) (bmB : List Value) (newId : String) : Prop where
  x : PySem.W.excIn K C bmB newId = true
  kp : PySem.W.keepIn K (.ref C) = true
  sub : PySem.W.subIn K (.ref C) (.type "BaseException") = some true
  ty : PySem.W.typeIn K (.ref C) = some (.type "type")
abbrev bmV : List Value := [.type "ValueError", .type "Exception", .type "BaseException", .type "object"]
abbrev bmL : List Value := [.type "LookupError", .type "Exception", .type "BaseException", .type "object"]
abbrev bmR : List Value := [.type "RuntimeError", .type "Exception", .type "BaseException", .type "object"]
def exoB (bmB : List Value) (newId : String) (x : Str) : Fx := fun K => PySem.W.excIn K (He.ga K x) bmB newId && (PySem.W.keepIn K (.ref (He.ga K x)) && (decide (PySem.W.subIn K (.ref (He.ga K x)) (.type "BaseException") = some true) && decide (PySem.W.typeIn K (.ref (He.ga K x)) = some (.type "type"))))
theorem exo_of {bmB : List Value} {newId : String} {x : Str} {K : PySem.W.Frag} (h : exoB bmB newId x K = true) : Exo K (He.ga K x) bmB newId := by
  obtain ⟨h1, h⟩ := He.ba h
  obtain ⟨h2, h⟩ := He.ba h
  obtain ⟨h3, h4⟩ := He.ba h
  exact ⟨h1, h2, of_decide_eq_true h3, of_decide_eq_true h4⟩
section
variable {K : PySem.W.Frag} {h : Heap} {mg : Str → Option Value}
theorem gint_of (X : K.In h) (G : h.Ns mainGlobals mg) {x : Str} {i : Int} (c : (He.Fa.int x i).ok K = true) : ∃ u, mg x = some u ∧ RelV (.int i) u := by
  obtain ⟨t, e⟩ := He.int_ok X G c
  exact ⟨_, e, ⟨t, rfl⟩⟩
theorem gstr_of (X : K.In h) (G : h.Ns mainGlobals mg) {x z : Str} (c : (He.Fa.str x z).ok K = true) : ∃ u, mg x = some u ∧ RelV (.str z) u := by
  obtain ⟨t, e⟩ := He.str_ok X G c
  exact ⟨_, e, ⟨t, rfl⟩⟩
end
/-- a module's constant -/
theorem pe_k {X : Cx} {x : Str} {v : V} {pos : Pos} (h : ∃ u, X.mg x = some u ∧ RelV v u) (hg : Gl X x := by rfl) (hdb : (x == ("__debug__" : Str)) = false := by decide) : PE X (.Name x pos) (tC v) := by
  obtain ⟨u, e, r⟩ := h
  exact pe_glob hg e r hdb
end L3
set_option Elab.async false
set_option linter.all false
set_option maxRecDepth 100000
set_option maxHeartbeats 4000000
namespace L3
open PySem PySem.Spec PyProof.Rows L2
/-! ### heaps that grow -/
abbrev Ex (H H' : Hp) : Prop := Same H H'
theorem ex_new {H : Hp} {p : Addr} {o : HO} (h : H p = none) : Ex H (upd H p o) := fun a u e => by
  rw [upd_ne (ne_of_none e h)]
  exact e
/-- an object that H does not know may change -/
theorem ex_mut {H H' : Hp} {p : Addr} {o : HO} (e : Ex H H') (h : H p = none) : Ex H (upd H' p o) := fun a u ha => by
  rw [upd_ne (ne_of_none ha h)]
  exact e a u ha
theorem ex_sql {K : PySem.W.Frag} {H H' : Hp} {a : Addr} {xs : List V} (e : Ex H H') (h : SqL K H a xs) : SqL K H' a xs := Same.seq e h
theorem ex_sqt {K : PySem.W.Frag} {H H' : Hp} {a : Addr} {xs : List V} (e : Ex H H') (h : SqT K H a xs) : SqT K H' a xs := by
  rcases h with (h | ⟨o, h⟩) | h
  · exact .inl (.inl (e _ _ h))
  · exact .inl (.inr ⟨o, e _ _ h⟩)
  · exact .inr h
theorem ex_fresh {H H' : Hp} {p : Addr} (e : Ex H H') (h : H' p = none) : H p = none := Same.free e h
theorem sq_lst {K : PySem.W.Frag} {H : Hp} {a : Addr} {xs : List V} (h : H a = some (.lst xs)) : SqL K H a xs := .inl (.inl h)
theorem sq_tup {K : PySem.W.Frag} {H : Hp} {a : Addr} {xs : List V} (h : H a = some (.tup xs)) : SqT K H a xs := .inl (.inl h)
/-! ### whole numbers, moments -/
/-- a value of a known type -/
def isW : V → Bool
  | .int _ => true
  | _ => false
def isM : V → Bool
  | .int i => decide (0 ≤ i)
  | _ => false
def isB (n : Int) : V → Bool
  | .int i => decide (0 ≤ i) && decide (i < n)
  | _ => false
def Cl (K : PySem.W.Frag) (H : Hp) (x : V) : Prop := ∃ t b c, TyX K H x t ∧ PySem.W.kitOne K t (.type "int") = some b ∧ PySem.W.kitOne K t (.type "bool") = some c ∧ isW x = (b && !c)
section
variable {K : PySem.W.Frag} {H : Hp}
theorem cl_int (i : Int) : Cl K H (.int i) := ⟨_, true, false, .base (.int i), kit_ty (by decide +kernel), kit_ty (by decide +kernel), rfl⟩
theorem cl_bl (b : Bool) : Cl K H (.bl b) := ⟨_, true, true, .base (.bl b), kit_ty (by decide +kernel), kit_ty (by decide +kernel), rfl⟩
theorem cl_non : Cl K H .non := ⟨_, false, false, .base .non, kit_ty (by decide +kernel), kit_ty (by decide +kernel), rfl⟩
theorem cl_str (z : Str) : Cl K H (.str z) := ⟨_, false, false, .base (.str z), kit_ty (by decide +kernel), kit_ty (by decide +kernel), rfl⟩
theorem kit_list : PySem.W.kitOne K (.type "list") (.type "int") = some false ∧ PySem.W.kitOne K (.type "list") (.type "bool") = some false := ⟨kit_ty (by decide +kernel), kit_ty (by decide +kernel)⟩
theorem kit_tuple : PySem.W.kitOne K (.type "tuple") (.type "int") = some false ∧ PySem.W.kitOne K (.type "tuple") (.type "bool") = some false := ⟨kit_ty (by decide +kernel), kit_ty (by decide +kernel)⟩
theorem kit_dict : PySem.W.kitOne K (.type "dict") (.type "int") = some false ∧ PySem.W.kitOne K (.type "dict") (.type "bool") = some false := ⟨kit_ty (by decide +kernel), kit_ty (by decide +kernel)⟩
theorem cl_lst {a : Addr} {xs : List V} (e : H a = some (.lst xs)) : Cl K H (.ref a) := ⟨_, false, false, .base (.lst e), kit_list.1, kit_list.2, rfl⟩
theorem cl_tup {a : Addr} {xs : List V} (e : H a = some (.tup xs)) : Cl K H (.ref a) := ⟨_, false, false, .base (.tup e), kit_tuple.1, kit_tuple.2, rfl⟩
theorem cl_dK {a : Addr} {kvs : List (Key × V)} (e : H a = some (.dK kvs)) : Cl K H (.ref a) := ⟨_, false, false, .base (.dK e), kit_dict.1, kit_dict.2, rfl⟩
end
theorem isM_w {x : V} (h : isM x = true) : ∃ i, x = .int i ∧ 0 ≤ i := by
  cases x with
  | int i => exact ⟨i, rfl, of_decide_eq_true h⟩
  | _ => cases h
theorem isW_w {x : V} (h : isW x = true) : ∃ i, x = .int i := by
  cases x with
  | int i => exact ⟨i, rfl⟩
  | _ => cases h
theorem isM_f {x : V} (h : isW x = false) : isM x = false := by
  cases x with
  | int i => cases h
  | _ => rfl
/-- given values and defaults in the parameters' order -/
def pick {α : Type} (ix : List (Sum Nat Nat)) (us its : List α) : List α := ix.filterMap fun j => match j with
  | .inl i => us[i]?
  | .inr i => its[i]?
theorem pick_vals {vs ds : List V} {us its : List Value} (ix : List (Sum Nat Nat)) (r1 : Vals vs us) (r2 : Vals ds its) : Vals (pick ix vs ds) (pick ix us its) := by
  have one : ∀ {vs : List V} {us : List Value} (i : Nat), Vals vs us → (∃ v u, vs[i]? = some v ∧ us[i]? = some u ∧ RelV v u) ∨ (vs[i]? = none ∧ us[i]? = none) := fun {vs us} i r => by
    cases e : vs[i]? with
    | none => exact .inr ⟨rfl, r.none_of e⟩
    | some v =>
      obtain ⟨u, h1, h2⟩ := r.get e
      exact .inl ⟨v, u, rfl, h1, h2⟩
  induction ix with
  | nil => exact .nil
  | cons j ix ih =>
    unfold pick at ih ⊢
    cases j with
    | inl i =>
      rcases one i r1 with ⟨v, u, h1, h2, h3⟩ | ⟨h1, h2⟩
      · simp only [List.filterMap_cons, h1, h2]
        exact .cons h3 ih
      · simp only [List.filterMap_cons, h1, h2]
        exact ih
    | inr i =>
      rcases one i r2 with ⟨v, u, h1, h2, h3⟩ | ⟨h1, h2⟩
      · simp only [List.filterMap_cons, h1, h2]
        exact .cons h3 ih
      · simp only [List.filterMap_cons, h1, h2]
        exact ih
end L3
namespace L3
open PySem PySem.Spec PyProof.Rows L2
/-! ### texts of data -/
theorem log_of {n : Nat} (h : n < 10 ^ 200) : n.log2 < 1920 := PySem.Flt.log2_lt_of (by decide) (Nat.lt_trans h (by decide +kernel))
/-- data that repr shows, without dicts: whole numbers of at most 500 figures, texts of any signs -/
def okI (i : Int) : Bool := decide (i.natAbs < 10 ^ 200)
def okT (x : Str) : Bool := x.cps.toList.all fun c => decide (c < 16 ^ 8)
mutual
def okD : PyData → Bool
  | .none => true
  | .bool _ => true
  | .int i => okI i
  | .str x => okT x
  | .list xs => okL xs
  | .tuple xs => okL xs
  | .dict _ => false
def okL : List PyData → Bool
  | [] => true
  | x :: xs => okD x && okL xs
end
mutual
def szD : PyData → Nat
  | .none => 4
  | .bool _ => 5
  | .int _ => 1921
  | .str x => 10 * x.length + 2
  | .list xs => szL xs + 3
  | .tuple xs => szL xs + 3
  | .dict _ => 0
def szL : List PyData → Nat
  | [] => 0
  | x :: xs => szD x + 2 + szL xs
end
mutual
theorem okD_tells : ∀ d : PyData, okD d = true → d.hasDict = false ∧ d.showable = true ∧ d.shown.length ≤ szD d
  | .none, _ => ⟨rfl, rfl, Nat.le_refl _⟩
  | .bool b, _ => ⟨rfl, rfl, by cases b <;> decide⟩
  | .int i, h => by
    have h1 : i.natAbs < 10 ^ 200 := of_decide_eq_true (show decide (i.natAbs < 10 ^ 200) = true from h)
    exact ⟨rfl, decide_eq_true (log_of h1), int_text_len_1921 (log_of h1)⟩
  | .str x, h => by
    have h1 : ∀ c ∈ x.cps.toList, c < 16 ^ 8 := fun c hc => of_decide_eq_true (List.all_eq_true.mp h c hc)
    exact ⟨rfl, rfl, StrLaws.reprText_len x h1⟩
  | .list xs, h => by
    obtain ⟨h1, h2, h3⟩ := okL_tells xs h
    refine ⟨h1, h2, Nat.le_trans (listText_len_le (PyData.shownAll xs)) ?_⟩
    have e := PyData.shownAll_length xs
    show _ ≤ szL xs + 3
    omega
  | .tuple xs, h => by
    obtain ⟨h1, h2, h3⟩ := okL_tells xs h
    refine ⟨h1, h2, Nat.le_trans (tupleText_len_le (PyData.shownAll xs)) ?_⟩
    have e := PyData.shownAll_length xs
    show _ ≤ szL xs + 3
    omega
  | .dict _, h => by cases h
theorem okL_tells : ∀ xs : List PyData, okL xs = true → PyData.hasDictAll xs = false ∧ PyData.showableAll xs = true ∧ ((PyData.shownAll xs).map (·.length)).sum + 2 * xs.length ≤ szL xs
  | [], _ => ⟨rfl, rfl, Nat.le_refl _⟩
  | x :: xs, h => by
    obtain ⟨g1, g2⟩ := He.ba (show (okD x && okL xs) = true from h)
    obtain ⟨h1, h2, h3⟩ := okD_tells x g1
    obtain ⟨k1, k2, k3⟩ := okL_tells xs g2
    refine ⟨?_, ?_, ?_⟩
    · show (x.hasDict || PyData.hasDictAll xs) = false
      rw [h1, k1]
      rfl
    · show (x.showable && PyData.showableAll xs) = true
      rw [h2, k2]
      rfl
    · show (x.shown.length + ((PyData.shownAll xs).map (·.length)).sum) + 2 * (xs.length + 1) ≤ szD x + 2 + szL xs
      omega
end
/-- repr of a list, a tuple -/
theorem rr_data {K : PySem.W.Frag} {H : Hp} {a : Addr} {d : PyData} {Q : VK} (h : Dp K H (.ref a) d) (ho : okD d = true) (hz : szD d ≤ 16000000) (hd : d.depth ≤ 60) (q : Q (.str d.shown) H) : rRepr K [.ref a] H Q := by
  obtain ⟨h1, h2, h3⟩ := okD_tells d ho
  unfold rRepr
  exact ⟨a, d, rfl, h, h1, h2, hd, Nat.le_trans h3 (Nat.le_trans hz (by rw [sizeLine_eq]; decide)), q⟩
section
variable {K : PySem.W.Frag} {H : Hp} {a : Addr} {ns : List Int} {Q : VK}
theorem dpAll_ints (K : PySem.W.Frag) (H : Hp) : ∀ ns : List Int, DpAll K H (ns.map V.int) (ns.map PyData.int)
  | [] => .nil
  | n :: ns => .cons (.int n) (dpAll_ints K H ns)
theorem ints_ok : ∀ ns : List Int, (∀ n ∈ ns, okI n = true) → okL (ns.map PyData.int) = true
  | [], _ => rfl
  | n :: ns, h => by
    show (okI n && okL (ns.map PyData.int)) = true
    rw [ints_ok ns fun m hm => h m (List.mem_cons_of_mem _ hm), h n List.mem_cons_self]
    rfl
theorem ints_sz : ∀ ns : List Int, szL (ns.map PyData.int) = 1923 * ns.length
  | [] => rfl
  | n :: ns => by
    show 1921 + 2 + szL (ns.map PyData.int) = 1923 * (ns.length + 1)
    rw [ints_sz ns]
    omega
theorem ints_depth : ∀ ns : List Int, PyData.depthAll (ns.map PyData.int) = 0
  | [] => rfl
  | n :: ns => by
    show max 0 (PyData.depthAll (ns.map PyData.int)) = 0
    rw [ints_depth ns]
    rfl
/-- the text of a list of whole numbers -/
def txtI (ns : List Int) : Str := PyData.shown (.list (ns.map PyData.int))
/-- repr(xs), xs a list of whole numbers -/
theorem rr_ints (h : SqL K H a (ns.map V.int)) (hs : ∀ n ∈ ns, okI n = true) (hl : ns.length ≤ 8000) (q : Q (.str (txtI ns)) H) : rRepr K [.ref a] H Q := by
  refine rr_data (.lst h (dpAll_ints K H ns)) (ints_ok ns hs) ?_ ?_ q
  · show szL (ns.map PyData.int) + 3 ≤ 16000000
    rw [ints_sz]
    omega
  · show PyData.depthAll (ns.map PyData.int) + 1 ≤ 60
    rw [ints_depth]
    decide
theorem okI_of {i : Int} (h1 : -(10 ^ 150) < i) (h2 : i < 10 ^ 150) : okI i = true := decide_eq_true (by
  have e : (10 : Nat) ^ 150 < 10 ^ 200 := by decide +kernel
  have e2 : i.natAbs < 10 ^ 150 := by omega
  exact Nat.lt_trans e2 e)
end
end L3
namespace L3
open PySem PySem.Spec PyProof.Rows L2
/-! ### all([f(x) for x in xs]), each answer True -/
section
variable {K : PySem.W.Frag} {a : Addr} {xs : List V} {g : TG} {tt : TT} {te : TE} {vs : List Nat} {σ : L2.St} {H1 : Hp} {D : Addr} {Qd : Hp → Prop}
theorem rep_snoc (n : Nat) : (List.replicate n true).map V.bl ++ [V.bl true] = (List.replicate (n + 1) true).map V.bl := by
  rw [List.replicate_succ', List.map_append]
  rfl
theorem small_len {n : Nat} (h : n ≤ 100000) : n < sizeLine := Nat.lt_of_le_of_lt h (by rw [sizeLine_eq]; decide)
abbrev Turn (g : TG) (tt : TT) (te : TE) (vs : List Nat) (σ : L2.St) (D : Addr) (x : V) (H : Hp) (N : Hp → Prop) : Prop :=
  g x (wipe σ vs) H fun σ2 H2 => wipe σ2 vs = wipe σ vs ∧ tt σ2 H2 fun b H3 => if b = true then te σ2 H3 fun y H4 => ∃ acc, H4 D = some (.lst acc) ∧ acc.length < sizeLine ∧ N (upd H4 D (.lst (acc ++ [y]))) else N H3
theorem lc_true_tup (I : Hp → Prop) (hI : ∀ H l, I H → I (upd H D (.lst l))) (i0 : I H1) (hx : xs.length ≤ 100000) (hl : ∀ H, I H → SqT K H a xs)
    (hs : ∀ (i : Nat) (x : V) (H : Hp) (acc : List V) (N : Hp → Prop), xs[i]? = some x → I H → H D = some (.lst acc) → acc.length < sizeLine → (∀ H4, I H4 → H4 D = some (.lst acc) → N (upd H4 D (.lst (acc ++ [.bl true])))) → Turn g tt te vs σ D x H N)
    (hd : ∀ H, I H → H D = some (.lst ((List.replicate xs.length true).map V.bl)) → Qd H) :
    ∃ W : Nat → Nat → Hp → Prop, (∃ m, W 0 m (upd H1 D (.lst []))) ∧ ∀ i m H, W i m H →
      ((Itt K a).stop i H ∧ Qd H) ∨ ((Itt K a).go i H ∧ ∃ Nx : Hp → Prop, (∀ H', Nx H' → ∃ m', m' < m ∧ W (i + 1) m' H') ∧ ∀ x H', (Itt K a).yld i H x H' → Turn g tt te vs σ D x H' Nx) := by
  refine lc_tup (fun i H => I H ∧ i ≤ xs.length ∧ H D = some (.lst ((List.replicate i true).map V.bl))) ⟨hI _ _ i0, Nat.zero_le _, upd_same⟩ (fun i H _ p => hl H p.1) ?_ (fun H p => hd H p.1 p.2.2)
  rintro i x H hi ⟨p1, p2, p3⟩
  have lt : i < xs.length := (List.getElem?_eq_some_iff.mp hi).1
  refine hs i x H _ _ hi p1 p3 ?_ fun H4 i4 d4 => ⟨hI _ _ i4, lt, by rw [upd_same, rep_snoc]⟩
  rw [List.length_map, List.length_replicate]
  exact small_len (by omega)
theorem lc_true_list (I : Hp → Prop) (hI : ∀ H l, I H → I (upd H D (.lst l))) (i0 : I H1) (hx : xs.length ≤ 100000) (hl : ∀ H, I H → SqL K H a xs)
    (hs : ∀ (i : Nat) (x : V) (H : Hp) (acc : List V) (N : Hp → Prop), xs[i]? = some x → I H → H D = some (.lst acc) → acc.length < sizeLine → (∀ H4, I H4 → H4 D = some (.lst acc) → N (upd H4 D (.lst (acc ++ [.bl true])))) → Turn g tt te vs σ D x H N)
    (hd : ∀ H, I H → H D = some (.lst ((List.replicate xs.length true).map V.bl)) → Qd H) :
    ∃ W : Nat → Nat → Hp → Prop, (∃ m, W 0 m (upd H1 D (.lst []))) ∧ ∀ i m H, W i m H →
      ((Itl K a).stop i H ∧ Qd H) ∨ ((Itl K a).go i H ∧ ∃ Nx : Hp → Prop, (∀ H', Nx H' → ∃ m', m' < m ∧ W (i + 1) m' H') ∧ ∀ x H', (Itl K a).yld i H x H' → Turn g tt te vs σ D x H' Nx) := by
  refine lc_list (fun i H => I H ∧ i ≤ xs.length ∧ H D = some (.lst ((List.replicate i true).map V.bl))) ⟨hI _ _ i0, Nat.zero_le _, upd_same⟩ (fun i H _ p => hl H p.1) ?_ (fun H p => hd H p.1 p.2.2)
  rintro i x H hi ⟨p1, p2, p3⟩
  have lt : i < xs.length := (List.getElem?_eq_some_iff.mp hi).1
  refine hs i x H _ _ hi p1 p3 ?_ fun H4 i4 d4 => ⟨hI _ _ i4, lt, by rw [upd_same, rep_snoc]⟩
  rw [List.length_map, List.length_replicate]
  exact small_len (by omega)
theorem all_rep (n : Nat) : (List.replicate n true).all id = true := by
  rw [List.all_eq_true]
  intro b hb
  exact (List.eq_of_mem_replicate hb)
end
end L3
namespace L3
open PySem PySem.Spec PyProof.Rows L2
/-! ### for k in range(max(1, min(len(script), most))) -/
abbrev turns (most : Int) (n : Nat) : Int := if (if most < (n : Int) then most else (n : Int)) > (1 : Int) then (if most < (n : Int) then most else (n : Int)) else (1 : Int)
theorem turns_lo (most : Int) (n : Nat) (h : 0 < most ∧ most ≤ 63) : -(2 ^ 62) ≤ turns most n := by
  unfold turns
  split <;> split <;> omega
theorem turns_hi (most : Int) (n : Nat) (h : 0 < most ∧ most ≤ 63) : turns most n < 2 ^ 62 := by
  unfold turns
  split <;> split <;> omega
theorem turns_lt {i : Nat} (most : Int) (n : Nat) (h : 0 < most ∧ most ≤ 63) (hi : i < (turns most n).toNat) : i < 1000 := by
  unfold turns at hi
  split at hi <;> split at hi <;> omega
end L3
set_option Elab.async false
set_option linter.all false
set_option maxRecDepth 100000
set_option maxHeartbeats 4000000
namespace L3
open PySem PySem.Spec PyProof.Rows L2 TL
/-! ### a comprehension whose i-th turn tells fm i -/
section
variable {J : It} {n : Nat} {G : Hp → Prop} {Y : Nat → Hp → V → Hp → Prop} {g : TG} {tt : TT} {te : TE} {vs : List Nat} {σ : L2.St} {H1 : Hp} {D : Addr} {Qd : Hp → Prop}
theorem range_fm_succ (fm : Nat → Option V) (i : Nat) : (List.range (i + 1)).filterMap fm = match fm i with
    | some y => (List.range i).filterMap fm ++ [y]
    | none => (List.range i).filterMap fm := by
  rw [List.range_succ, List.filterMap_append]
  cases e : fm i with
  | none => simp [e]
  | some y => simp [e]
theorem fm_len (fm : Nat → Option V) (i : Nat) : ((List.range i).filterMap fm).length ≤ i := by
  have := List.length_filterMap_le fm (List.range i)
  rwa [List.length_range] at this
theorem lc_fm (w : L2.Walk J n G Y) (fm : Nat → Option V) (I : Hp → Prop) (hI : ∀ H l, I H → I (upd H D (.lst l))) (i0 : I H1) (hn : n ≤ 100000) (hG : ∀ H, I H → G H)
    (hs : ∀ (i : Nat) (x : V) (H H' : Hp) (acc : List V) (N : Hp → Prop), i < n → I H → H D = some (.lst acc) → acc.length < sizeLine → Y i H x H' →
      (∀ H4, I H4 → H4 D = some (.lst acc) → match fm i with | some y => N (upd H4 D (.lst (acc ++ [y]))) | none => N H4) → Turn g tt te vs σ D x H' N)
    (hd : ∀ H, I H → H D = some (.lst ((List.range n).filterMap fm)) → Qd H) :
    ∃ W : Nat → Nat → Hp → Prop, (∃ m, W 0 m (upd H1 D (.lst []))) ∧ ∀ i m H, W i m H →
      (J.stop i H ∧ Qd H) ∨ (J.go i H ∧ ∃ Nx : Hp → Prop, (∀ H', Nx H' → ∃ m', m' < m ∧ W (i + 1) m' H') ∧ ∀ x H', J.yld i H x H' → Turn g tt te vs σ D x H' Nx) := by
  refine L2.lc_it w (fun i H => I H ∧ i ≤ n ∧ H D = some (.lst ((List.range i).filterMap fm))) ⟨hI _ _ i0, Nat.zero_le _, upd_same⟩ (fun i H _ p => hG H p.1) ?_ (fun H p => hd H p.1 p.2.2)
  rintro i x H H' hi ⟨p1, p2, p3⟩ y
  refine hs i x H H' _ _ hi p1 p3 (small_len (Nat.le_trans (fm_len fm i) (by omega))) y fun H4 i4 d4 => ?_
  have e := range_fm_succ fm i
  cases q : fm i with
  | none =>
    rw [q] at e
    exact ⟨i4, hi, by rw [e]; exact d4⟩
  | some y =>
    rw [q] at e
    exact ⟨hI _ _ i4, hi, by rw [upd_same, e]⟩
end
theorem range_map_get {α β : Type} (l : List α) (d : α) (f : α → β) : (List.range l.length).filterMap (fun i => some (f (l.getD i d))) = l.map f := by
  apply List.ext_getElem?
  intro i
  rw [List.filterMap_eq_map' (f := fun i => f (l.getD i d))]
  rw [List.getElem?_map, List.getElem?_map]
  by_cases h : i < l.length
  · rw [List.getElem?_range h, List.getElem?_eq_getElem h]
    simp [List.getD_eq_getElem?_getD, h]
  · rw [List.getElem?_eq_none (by simpa using h), List.getElem?_eq_none (by simpa using h)]
    rfl
/-! ### rules: rpartition, text * number -/
section
variable {X : Cx} {o e : Expr} {to te : TE}
theorem mt_rpartition : MtR X "str.rpartition" (fun x xs H Q => ∃ a b, x = .str a ∧ xs = [.str b] ∧ (b.length == 0) = false ∧ a.length ≤ sizeLine ∧
    ∀ p, H p = none → Q (.ref p) (upd H p (.tup [.str (Txt.rpartition a b).1, .str (Txt.rpartition a b).2.1, .str (Txt.rpartition a b).2.2]))) := by
  intro pins s σ H x xs v us Q I rx rs h
  obtain ⟨a, b, rfl, rfl, hb, hz, h⟩ := h
  obtain ⟨t, rfl⟩ := rx
  cases rs with
  | cons r1 rs =>
    cases rs
    obtain ⟨u, rfl⟩ := r1
    refine call_meets F.slot_str_rpartition (typeIs_str _ _ _) F.entry_str_rpartition (F.args_str_rpartition_2 _ _) (meets_str_rpartition a b t u hb hz) ?_
    unfold Txt.rpartition at h
    revert h
    cases Builtin.Str.lastOccurrence a b 0 a.length with
    | none => intro h; exact laid_parts I h
    | some i => intro h; exact laid_parts I h
theorem pe_rpartition {apos pos : Pos} (ho : PE X o to) (he : PE X e te) (hs : starEach [e] X.env = [(false, eval e X.env)] := by rfl) (hbase : attributeBase o "rpartition" X.env (eval o X.env) = eval o X.env := by rfl) (hline : (apos.endLine == pos.line) = true := by rfl) :
    PE X (.Call (.Attribute o "rpartition" apos) [e] [] pos) (tM1 (fun x xs H Q => ∃ a b, x = .str a ∧ xs = [.str b] ∧ (b.length == 0) = false ∧ a.length ≤ sizeLine ∧
      ∀ p, H p = none → Q (.ref p) (upd H p (.tup [.str (Txt.rpartition a b).1, .str (Txt.rpartition a b).2.1, .str (Txt.rpartition a b).2.2]))) to te) :=
  pe_m1 F.slot_str_rpartition F.type_str_rpartition mt_rpartition ho he hs hbase hline
/-- x * n, x a text of one sign -/
theorem op_repS : OpR X (binaryOp .Mult) (fun x y H Q => ∃ (a : Str) (n : Int), x = .str a ∧ y = .int n ∧ a.length ≤ 1000 ∧ 0 ≤ n ∧ n ≤ 10000 ∧ Q (.str (Txt.mul a n)) H) := by
  intro pins s σ H x y v u Q I rx ry h
  obtain ⟨a, n, rfl, rfl, ha, h0, h1, q⟩ := h
  obtain ⟨t, rfl⟩ := rx
  obtain ⟨t', rfl⟩ := ry
  refine SB.mul ⟨?_, fun z _ => ?_, fun z _ => ?_⟩ fun t' k => ⟨.str _, H, I.tok _, ⟨_, rfl⟩, q⟩
  · rw [decide_eq_false (by omega), decide_eq_false (by omega)]
    rfl
  · have hn : 0 < n := by omega
    have h2 : (a.length : Int) * n ≤ 1000 * 10000 := Int.mul_le_mul (by omega) h1 h0 (by decide)
    have h3 : (a.length : Int) ≤ (2 ^ 63 - 1) / n := Int.le_ediv_of_mul_le hn (by omega)
    omega
  · unfold Builtin.Str.tooLong
    rw [decide_eq_false]
    have h2 : a.length * n.toNat ≤ 1000 * 10000 := Nat.mul_le_mul ha (by omega)
    rw [sizeLine_eq]
    omega
end
end L3
set_option Elab.async false
set_option linter.all false
set_option maxRecDepth 100000
set_option maxHeartbeats 4000000
/-! Texts of numbers and moments, as lists of codes; no program here. -/
namespace Mo
open PySem TL
def isFig (c : Nat) : Bool := decide (48 ≤ c) && decide (c ≤ 57)
def figs (l : List Nat) : Bool := !l.isEmpty && l.all isFig
def val (l : List Nat) : Nat := NumText.digitsVal l
def num? (l : List Nat) : Option Nat := if figs l && !(decide (1 < l.length) && l.head? == some 48) then some (val l) else none
theorem isFig_iff {c : Nat} : isFig c = true ↔ 48 ≤ c ∧ c ≤ 57 := by
  unfold isFig
  rw [Bool.and_eq_true, decide_eq_true_eq, decide_eq_true_eq]
theorem all_digits {l : List Nat} (h : l.all isFig = true) : NumText.AllDigits l := fun c hc => isFig_iff.mp (List.all_eq_true.mp h c hc)
theorem all_fig {l : List Nat} (h : NumText.AllDigits l) : l.all isFig = true := List.all_eq_true.mpr fun c hc => isFig_iff.mpr (h c hc)
theorem figs_iff {l : List Nat} : figs l = true ↔ l ≠ [] ∧ NumText.AllDigits l := by
  unfold figs
  rw [Bool.and_eq_true]
  constructor
  · rintro ⟨h1, h2⟩
    exact ⟨(by rintro rfl; cases h1), all_digits h2⟩
  · rintro ⟨h1, h2⟩
    refine ⟨?_, all_fig h2⟩
    cases l with
    | nil => exact absurd rfl h1
    | cons a r => rfl
theorem figs_num (n : Nat) : figs (numL n) = true := figs_iff.mpr ⟨numL_ne n, numL_digits n⟩
theorem numL_head : ∀ n : Nat, 1 ≤ n → (numL n).head? ≠ some 48 := by
  intro n
  induction n using Nat.strongRecOn with
  | ind n ih =>
    intro h
    by_cases hn : n < 10
    · rw [numL_lt hn]
      simp
      omega
    · rw [numL_step (by omega)]
      have z := ih (n / 10) (by omega) (by omega)
      have y := numL_ne (n / 10)
      cases e : numL (n / 10) with
      | nil => exact absurd e y
      | cons a r =>
        rw [e] at z
        simpa using z
theorem numL_one {n : Nat} (h : 1 < (numL n).length) : 10 ≤ n := by
  by_cases hn : n < 10
  · rw [numL_lt hn] at h
    simp at h
  · omega
theorem val_num (n : Nat) : val (numL n) = n := numL_val n
theorem num_num (n : Nat) : num? (numL n) = some n := by
  unfold num?
  rw [figs_num, val_num]
  have e : (decide (1 < (numL n).length) && (numL n).head? == some 48) = false := by
    by_cases h : 1 < (numL n).length
    · have h2 := numL_head n (by have := numL_one h; omega)
      rw [decide_eq_true h]
      simpa using h2
    · rw [decide_eq_false h]
      rfl
  rw [e]
  rfl
theorem val_lt {l : List Nat} (h : NumText.AllDigits l) : NumText.digitsVal l < 10 ^ l.length := by
  have key : ∀ (l : List Nat) (a : Nat), NumText.AllDigits l → l.foldl (fun acc c => acc * 10 + (c - 48)) a < (a + 1) * 10 ^ l.length := by
    intro l
    induction l with
    | nil => intro a _; simp
    | cons c r ih =>
      intro a h
      have hc := h.head
      have z := ih (a * 10 + (c - 48)) h.tail
      rw [List.foldl_cons, List.length_cons, Nat.pow_succ]
      refine Nat.lt_of_lt_of_le z ?_
      have : (a * 10 + (c - 48) + 1) ≤ (a + 1) * 10 := by omega
      calc (a * 10 + (c - 48) + 1) * 10 ^ r.length ≤ (a + 1) * 10 * 10 ^ r.length := Nat.mul_le_mul_right _ this
        _ = (a + 1) * (10 ^ r.length * 10) := by rw [Nat.mul_assoc, Nat.mul_comm 10]
  have z := key l 0 h
  simpa [NumText.digitsVal] using z
/-! ### cut at the last sign -/
def rcut (c : Nat) : List Nat → Option (List Nat × List Nat)
  | [] => none
  | x :: r => match rcut c r with
    | some (h, t) => some (x :: h, t)
    | none => if x = c then some ([], r) else none
theorem rcut_none {c : Nat} : ∀ {l : List Nat}, c ∉ l → rcut c l = none
  | [], _ => rfl
  | x :: r, h => by
    have h1 : c ∉ r := fun z => h (List.mem_cons_of_mem _ z)
    have h2 : x ≠ c := fun z => h (by rw [z]; exact List.mem_cons_self)
    unfold rcut
    rw [rcut_none h1]
    exact if_neg h2
theorem rcut_some {c : Nat} : ∀ (p : List Nat) {q : List Nat}, c ∉ q → rcut c (p ++ c :: q) = some (p, q)
  | [], q, h => by
    show rcut c (c :: q) = some ([], q)
    unfold rcut
    rw [rcut_none h]
    exact if_pos rfl
  | x :: p, q, h => by
    show rcut c (x :: (p ++ c :: q)) = some (x :: p, q)
    unfold rcut
    rw [rcut_some p h]
theorem rcut_is {c : Nat} : ∀ {l p q : List Nat}, rcut c l = some (p, q) → l = p ++ c :: q ∧ c ∉ q
  | [], _, _, h => by cases h
  | x :: r, p, q, h => by
    unfold rcut at h
    cases e : rcut c r with
    | some z =>
      obtain ⟨h1, h2⟩ := z
      rw [e] at h
      cases h
      obtain ⟨e1, e2⟩ := rcut_is e
      exact ⟨by rw [e1]; rfl, e2⟩
    | none =>
      rw [e] at h
      by_cases hx : x = c
      · have h' : some (([] : List Nat), r) = some (p, q) := by rw [← h]; simp [hx]
        cases h'
        refine ⟨by rw [hx]; rfl, fun z => ?_⟩
        obtain ⟨a, b, eab⟩ := List.append_of_mem z
        -- the last c of r
        have key : ∀ l : List Nat, c ∈ l → rcut c l ≠ none := by
          intro l
          induction l with
          | nil => intro z; cases z
          | cons y l ih =>
            intro z w
            unfold rcut at w
            cases e2 : rcut c l with
            | some k => rw [e2] at w; cases w
            | none =>
              rw [e2] at w
              rcases List.mem_cons.mp z with rfl | z
              · simp at w
              · exact ih z e2
        exact key r z e
      · simp [hx] at h
theorem rcut_nin {c : Nat} : ∀ {l : List Nat}, rcut c l = none → c ∉ l := by
  intro l
  induction l with
  | nil => intro _ z; cases z
  | cons y l ih =>
    intro w z
    unfold rcut at w
    cases e2 : rcut c l with
    | some k => rw [e2] at w; cases w
    | none =>
      rw [e2] at w
      rcases List.mem_cons.mp z with rfl | z
      · simp at w
      · exact ih e2 z
theorem rpartition_S (a : List Nat) (c : Nat) : Txt.rpartition (SX.S a) (SX.S [c]) = match rcut c a with
    | some (p, q) => (SX.S p, SX.S [c], SX.S q)
    | none => (SX.S [], SX.S [], SX.S a) := by
  have hy : tl (SX.S [c]) ≠ [] := by simp
  have pr : ∀ i, pre (tl (SX.S [c])) ((tl (SX.S a)).drop i) = true ↔ a[i]? = some c := fun i => by
    show ((a.drop i).take 1 == [c]) = true ↔ _
    rw [beq_iff_eq]
    by_cases hi : i < a.length
    · have e1 : a.drop i = a[i] :: a.drop (i + 1) := List.drop_eq_getElem_cons hi
      rw [e1, List.getElem?_eq_getElem hi, List.take_succ_cons, List.take_zero]
      constructor
      · intro z
        injection z with z1
        rw [z1]
      · intro z
        injection z with z1
        rw [z1]
    · rw [List.drop_eq_nil_of_le (by omega), List.getElem?_eq_none (by omega)]
      simp
  unfold Txt.rpartition
  rcases StrLaws.last_spec (SX.S a) (SX.S [c]) with ⟨e, h⟩ | ⟨i, e, h, k⟩
  · rw [e]
    have hn : c ∉ a := fun z => by
      obtain ⟨i, hi, hc⟩ := List.getElem_of_mem z
      exact h i ((at_iff hy i).mpr ((pr i).mpr (by rw [List.getElem?_eq_getElem hi, hc])))
    rw [rcut_none hn]
    rfl
  · rw [e]
    have hi := (pr i).mp ((at_iff hy i).mp h)
    obtain ⟨lt, hc⟩ := List.getElem?_eq_some_iff.mp hi
    have hq : c ∉ a.drop (i + 1) := fun z => by
      obtain ⟨j, hj, hcj⟩ := List.getElem_of_mem z
      rw [List.length_drop] at hj
      refine k (i + 1 + j) (by omega) ((at_iff hy _).mpr ((pr _).mpr ?_))
      rw [List.getElem_drop] at hcj
      rw [List.getElem?_eq_getElem (by omega), hcj]
    have ea : a = a.take i ++ c :: a.drop (i + 1) := by
      rw [← hc, List.getElem_cons_drop, List.take_append_drop]
    have er : rcut c a = some (a.take i, a.drop (i + 1)) := by
      conv => lhs; rw [ea]
      exact rcut_some _ hq
    rw [er]
    show (Builtin.Str.strSub (SX.S a) 0 i, SX.S [c], Builtin.Str.strSub (SX.S a) (i + (SX.S [c]).length) (SX.S a).length) = (SX.S (a.take i), SX.S [c], SX.S (a.drop (i + 1)))
    have e1 : Builtin.Str.strSub (SX.S a) 0 i = SX.S (a.take i) := ext_tl (by rw [tl_strSub]; simp)
    have e2 : Builtin.Str.strSub (SX.S a) (i + (SX.S [c]).length) (SX.S a).length = SX.S (a.drop (i + 1)) := ext_tl (by rw [tl_strSub_end]; simp [SX.S_len])
    rw [e1, e2]
/-! ### cut at the first sign -/
theorem pre1 (c x : Nat) (r : List Nat) : pre [c] (x :: r) = decide (x = c) := by
  show ([x] == [c]) = decide (x = c)
  by_cases h : x = c
  · rw [h, decide_eq_true rfl]
    simp
  · rw [decide_eq_false h]
    simpa using h
theorem par_is {c : Nat} : ∀ {l acc p q : List Nat}, par [c] acc l = some (p, q) → ∃ p', p = acc ++ p' ∧ l = p' ++ c :: q ∧ c ∉ p'
  | [], _, _, _, h => by cases h
  | x :: r, acc, p, q, h => by
    by_cases hx : x = c
    · have e : pre [c] (x :: r) = true := by rw [pre1, decide_eq_true hx]
      rw [par_hit e] at h
      cases h
      exact ⟨[], by simp, by rw [hx]; rfl, by simp⟩
    · have e : pre [c] (x :: r) = false := by rw [pre1, decide_eq_false hx]
      rw [par_miss e] at h
      obtain ⟨p', e1, e2, e3⟩ := par_is h
      refine ⟨x :: p', by rw [e1]; simp, by rw [e2]; rfl, fun z => ?_⟩
      rcases List.mem_cons.mp z with z | z
      · exact hx z.symm
      · exact e3 z
theorem par_nin {c : Nat} : ∀ {l acc : List Nat}, par [c] acc l = none → c ∉ l
  | [], _, _ => by simp
  | x :: r, acc, h => by
    by_cases hx : x = c
    · have e : pre [c] (x :: r) = true := by rw [pre1, decide_eq_true hx]
      rw [par_hit e] at h
      cases h
    · have e : pre [c] (x :: r) = false := by rw [pre1, decide_eq_false hx]
      rw [par_miss e] at h
      intro z
      rcases List.mem_cons.mp z with z | z
      · exact hx z.symm
      · exact par_nin h z
/-! ### moments -/
def two (m : Nat) : List Nat := [48 + m / 10, 48 + m % 10]
def clk (m : Nat) : List Nat := numL (m % 1440 / 60) ++ 58 :: two (m % 60)
def shw (m : Nat) : List Nat := if m / 1440 = 0 then clk m else numL (m / 1440) ++ 32 :: clk m
def dayOf (l : List Nat) : Option Nat := match num? l with
  | some 0 => none
  | o => o
def clkOf (l : List Nat) : Option Nat := match par [58] [] l with
  | none => none
  | some (h, m) => if decide (m.length = 2) && figs m then (match num? h with
    | some k => if k < 24 ∧ val m < 60 then some (k * 60 + val m) else none
    | none => none) else none
def momOf (l : List Nat) : Option Nat := match rcut 32 l with
  | none => clkOf l
  | some (h, t) => match dayOf h with
    | none => none
    | some d => (clkOf t).map fun m => d * 1440 + m
theorem two_val {m : Nat} (h : m < 60) : figs (two m) = true ∧ val (two m) = m := by
  have all : ∀ m, m < 60 → (figs (two m) && decide (val (two m) = m)) = true := by decide +kernel
  have z := all m h
  rw [Bool.and_eq_true, decide_eq_true_eq] at z
  exact z
theorem clkOf_clk (m : Nat) : clkOf (clk m) = some (m % 1440) := by
  unfold clkOf clk
  have e := SX.par_head (c := 58) (sep := []) (two (m % 60)) (p := numL (m % 1440 / 60)) (numL_free (.inr (by decide)))
  rw [show numL (m % 1440 / 60) ++ 58 :: two (m % 60) = numL (m % 1440 / 60) ++ ([58] ++ two (m % 60)) from rfl]
  rw [show par [58] [] (numL (m % 1440 / 60) ++ ([58] ++ two (m % 60))) = some (numL (m % 1440 / 60), two (m % 60)) from e]
  obtain ⟨h1, h2⟩ := two_val (show m % 60 < 60 by omega)
  show (if decide ((two (m % 60)).length = 2) && figs (two (m % 60)) then _ else none) = _
  rw [h1, num_num, h2]
  have : m % 1440 / 60 < 24 ∧ m % 60 < 60 := by omega
  simp only [this, and_self, if_true, two]
  simp
  omega
theorem clk_free (m : Nat) : 32 ∉ clk m := by
  unfold clk
  intro z
  rcases List.mem_append.mp z with z | z
  · exact numL_free (.inl (by decide)) z
  · simp only [two, List.mem_cons, List.not_mem_nil, or_false] at z
    omega
theorem momOf_shw (m : Nat) : momOf (shw m) = some m := by
  unfold momOf shw
  by_cases h : m / 1440 = 0
  · rw [if_pos h, rcut_none (clk_free m), clkOf_clk]
    simp
    omega
  · rw [if_neg h, rcut_some _ (clk_free m)]
    have e : dayOf (numL (m / 1440)) = some (m / 1440) := by
      unfold dayOf
      rw [num_num]
      cases k : m / 1440 with
      | zero => exact absurd k h
      | succ j => rfl
    simp only [e, clkOf_clk]
    simp
    omega
theorem shw_len {m k : Nat} (hk : 0 < k) (h : m < 10 ^ k) : (shw m).length ≤ k + 8 := by
  have h1 : (numL (m % 1440 / 60)).length ≤ 2 := numL_len (by decide) (by omega)
  have h2 : (numL (m / 1440)).length ≤ k := numL_len hk (Nat.lt_of_le_of_lt (Nat.div_le_self _ _) h)
  unfold shw clk two
  split <;> simp <;> omega
theorem shw_inj {m n : Nat} (h : shw m = shw n) : m = n := by
  have e := momOf_shw m
  rw [h, momOf_shw] at e
  exact (Option.some.inj e).symm
end Mo
namespace Mo
open PySem TL L2
/-! ### slices -/
theorem cut_to (l : List Nat) (k : Nat) : cutS (SX.S l) none (some (k : Int)) = SX.S (l.take k) := by
  unfold cutS
  rw [HT.sIx_nat, HT.sIx_none]
  refine ext_tl ?_
  show (l.drop 0).take (min k (SX.S l).length - 0) = l.take k
  rw [SX.S_len, List.drop_zero, Nat.sub_zero, List.take_eq_take_iff]
  omega
theorem cut_from (l : List Nat) (k : Nat) : cutS (SX.S l) (some (k : Int)) none = SX.S (l.drop k) := by
  unfold cutS
  rw [HT.sIx_nat, HT.sIx_none]
  refine ext_tl ?_
  show (l.drop (min k (SX.S l).length)).take ((SX.S l).length - min k (SX.S l).length) = l.drop k
  rw [SX.S_len]
  by_cases h : k ≤ l.length
  · rw [Nat.min_eq_left h]
    exact List.take_of_length_le (by rw [List.length_drop]; omega)
  · rw [Nat.min_eq_right (by omega), List.drop_eq_nil_of_le (Nat.le_refl _), List.drop_eq_nil_of_le (by omega)]
    simp
theorem cut_mid (l : List Nat) (i j : Nat) : cutS (SX.S l) (some (i : Int)) (some (j : Int)) = SX.S ((l.drop i).take (j - i)) := by
  unfold cutS
  rw [HT.sIx_nat, HT.sIx_nat]
  refine ext_tl ?_
  show (l.drop (min i (SX.S l).length)).take (min j (SX.S l).length - min i (SX.S l).length) = (l.drop i).take (j - i)
  rw [SX.S_len]
  by_cases h : i ≤ l.length
  · rw [Nat.min_eq_left h, List.take_eq_take_iff, List.length_drop]
    omega
  · rw [Nat.min_eq_right (by omega : l.length ≤ i), List.drop_eq_nil_of_le (Nat.le_refl _), List.drop_eq_nil_of_le (by omega : l.length ≤ i)]
    simp
end Mo
namespace Mo
open PySem TL L2
/-! ### split at one sign -/
theorem spl_ne (S : List Nat) : ∀ (k : Nat) (acc l : List Nat), spl S k acc l ≠ []
  | k, acc, [] => by rw [spl_nil]; simp
  | 0, acc, c :: r => by
    unfold spl
    split
    · simp
    · exact spl_ne S 0 _ r
  | k + 1, acc, c :: r => by
    unfold spl
    exact spl_ne S k acc r
theorem first_of {c : Nat} : ∀ {l : List Nat}, c ∈ l → ∃ p q, l = p ++ c :: q ∧ c ∉ p
  | x :: r, h => by
    by_cases hx : x = c
    · exact ⟨[], r, by rw [hx]; rfl, by simp⟩
    · rcases List.mem_cons.mp h with h | h
      · exact absurd h.symm hx
      · obtain ⟨p, q, e, n⟩ := first_of h
        refine ⟨x :: p, q, by rw [e]; rfl, fun z => ?_⟩
        rcases List.mem_cons.mp z with z | z
        · exact hx z.symm
        · exact n z
theorem spl_cut {c : Nat} {p : List Nat} (q : List Nat) (h : c ∉ p) : spl [c] 0 [] (p ++ c :: q) = p :: spl [c] 0 [] q := by
  have e := spl_part1 (s := c) (S := []) (rest := q) (acc := []) h
  simpa using e
theorem spl_one {c : Nat} {p : List Nat} (h : c ∉ p) : spl [c] 0 [] p = [p] := by
  have e := spl_last1 (s := c) (S := []) (acc := []) h
  simpa using e
theorem spl_two {c : Nat} {l : List Nat} (h : c ∈ l) : 2 ≤ (spl [c] 0 [] l).length := by
  obtain ⟨p, q, rfl, n⟩ := first_of h
  rw [spl_cut q n]
  have := spl_ne [c] 0 [] q
  cases e : spl [c] 0 [] q with
  | nil => exact absurd e this
  | cons a r => simp
theorem spl_le (c : Nat) : ∀ (n : Nat) (l : List Nat), l.length ≤ n → (∀ p ∈ spl [c] 0 [] l, p.length ≤ l.length) ∧ (spl [c] 0 [] l).length ≤ l.length + 1
  | n, l, hn => by
    by_cases h : c ∈ l
    · obtain ⟨p, q, rfl, np⟩ := first_of h
      cases n with
      | zero => simp at hn
      | succ m =>
        have ih := spl_le c m q (by simp at hn; omega)
        rw [spl_cut q np]
        refine ⟨fun x hx => ?_, ?_⟩
        · rcases List.mem_cons.mp hx with rfl | hx
          · simp
          · have := ih.1 x hx
            simp
            omega
        · have := ih.2
          simp
          omega
    · rw [spl_one h]
      simp
/-- the words of a text, by its last blank -/
theorem words_of (l : List Nat) : (rcut 32 l = none ∧ spl [32] 0 [] l = [l]) ∨ (∃ h t, rcut 32 l = some (h, t) ∧ spl [32] 0 [] l = [h, t]) ∨ (momOf l = none ∧ 2 < (spl [32] 0 [] l).length) := by
  cases e : rcut 32 l with
  | none => exact .inl ⟨rfl, spl_one (rcut_nin e)⟩
  | some z =>
    obtain ⟨h, t⟩ := z
    obtain ⟨el, nt⟩ := rcut_is e
    by_cases hb : 32 ∈ h
    · refine .inr (.inr ⟨?_, ?_⟩)
      · unfold momOf
        rw [e]
        have : dayOf h = none := by
          have hf : figs h = false := by
            cases f : figs h with
            | false => rfl
            | true =>
              have := (figs_iff.mp f).2 32 hb
              omega
          unfold dayOf num?
          rw [hf]
          rfl
        simp only [this]
      · obtain ⟨p, q, eh, np⟩ := first_of hb
        rw [el, eh, List.append_assoc]
        show 2 < (spl [32] 0 [] (p ++ 32 :: (q ++ 32 :: t))).length
        rw [spl_cut _ np]
        have := spl_two (c := 32) (l := q ++ 32 :: t) (by simp)
        simp
        omega
    · refine .inr (.inl ⟨h, t, rfl, ?_⟩)
      rw [el, spl_cut t hb, spl_one nt]
theorem parts_of (u : List Nat) : (∃ h m, spl [58] 0 [] u = [h, m] ∧ h.length + m.length < u.length ∧ clkOf u = if decide (m.length = 2) && figs m then (match num? h with
      | some k => if k < 24 ∧ val m < 60 then some (k * 60 + val m) else none
      | none => none) else none) ∨ (clkOf u = none ∧ (spl [58] 0 [] u).length ≠ 2) := by
  cases e : par [58] [] u with
  | none =>
    refine .inr ⟨by unfold clkOf; rw [e], ?_⟩
    rw [spl_one (par_nin e)]
    simp
  | some z =>
    obtain ⟨h, m⟩ := z
    obtain ⟨h', eh, eu, nh⟩ := par_is e
    have eh2 : h = h' := by rw [eh]; rfl
    subst eh2
    by_cases hm : 58 ∈ m
    · refine .inr ⟨?_, ?_⟩
      · unfold clkOf
        rw [e]
        have hf : figs m = false := by
          cases f : figs m with
          | false => rfl
          | true =>
            have := (figs_iff.mp f).2 58 hm
            omega
        simp only [hf, Bool.and_false]
        rfl
      · rw [eu, spl_cut m nh]
        have := spl_two hm
        simp
        omega
    · refine .inl ⟨h, m, ?_, by rw [eu]; simp, ?_⟩
      · rw [eu, spl_cut m nh, spl_one hm]
      · unfold clkOf
        rw [e]
end Mo
namespace Mo
open PySem TL L2
theorem val_zero {h : List Nat} {n : Nat} (hn : num? h = some n) (h0 : n = 0) : h = [48] := by
  unfold num? at hn
  split at hn
  · rename_i c
    obtain ⟨c1, c2⟩ := Bool.and_eq_true_iff.mp c
    obtain ⟨h1, h2⟩ := figs_iff.mp c1
    have ev : val h = 0 := by
      have := Option.some.inj hn
      omega
    cases h with
    | nil => exact absurd rfl h1
    | cons a r =>
      have ha := h2 a List.mem_cons_self
      cases r with
      | nil =>
        have : val [a] = a - 48 := by simp [val, NumText.digitsVal]
        have : a = 48 := by omega
        rw [this]
      | cons b t =>
        exfalso
        have c3 : ((b :: t).length + 1 > 1) := by simp
        have hz : a ≠ 48 := fun z => by
          rw [z] at c2
          simp at c2
        have key : ∀ (l : List Nat) (acc : Nat), 1 ≤ acc → 1 ≤ l.foldl (fun acc c => acc * 10 + (c - 48)) acc := by
          intro l
          induction l with
          | nil => intro acc h; exact h
          | cons c r ih => intro acc h; exact ih _ (by show 1 ≤ acc * 10 + (c - 48); omega)
        have z := key (b :: t) (0 * 10 + (a - 48)) (by omega)
        have e : val (a :: b :: t) = (b :: t).foldl (fun acc c => acc * 10 + (c - 48)) (0 * 10 + (a - 48)) := rfl
        omega
  · cases hn
end Mo
set_option Elab.async false
set_option linter.all false
set_option maxRecDepth 100000
set_option maxHeartbeats 4000000
namespace L3
open PySem PySem.Spec PyProof.Rows L2
/-! ### try .. except (X1, X2, X3) as n -/
theorem flying_keeps {B h h' : Heap} {l : List Env} {a : Addr} {Z : Obj → Prop} (f : HandSPX.FlyingZ B l a Z h) (k : ∀ b o, h.get? b = some o → h'.get? b = some o) : HandSPX.FlyingZ B l a Z h' := by
  obtain ⟨f1, f2, f3, oe, vs, T, oT, ts, g1, g2, g3, g4, g5, g6, g7, g8⟩ := f
  exact ⟨fun b o e => k _ _ (f1 b o e), f2, Heap.FunFrames.of_keeps (fun b o e _ => ⟨o, k _ _ e, rfl⟩) f3, oe, vs, T, oT, ts, k _ _ g1, g2, g3, g4, g5, g6, k _ _ g7, g8⟩
/-- what such a clause wishes of an exception of the body: it is caught; slot i is n's -/
def wTup (K : PySem.W.Frag) (cs : List Value) (i : Nat) (ts : Addr → Value → Option Addr → TS) (D : Ends) : WX := fun cls d σ H =>
  PySem.W.exmAny K cls cs = some true ∧ ∀ a, H a = none → ts a cls d { nx := fun σ' H' => D.nx (σ'.set i none) H', rt := D.rt, bk := fun σ' H' => D.bk (σ'.set i none) H', ct := fun σ' H' => D.ct (σ'.set i none) H' } (σ.set i (some (.ref a))) H
section
variable {X : Cx} {x1 x2 x3 n : Str} {c1 c2 c3 : Value} {i k3 : Nat} {body suite : List Stmt} {b₀ : Stmt} {p1 p2 p3 tp pos pos' : Pos} {tb : WX → TS} {ts : Addr → Value → Option Addr → TS}
theorem ps_try_tup (hs : X.stack = X.env :: X.outer) (hf : X.env.frame = some X.env.locals) (hN : X.N.Nodup) (hi : X.N[i]? = some n) (hln : X.env.kindOf n = some .local)
    (m1 : X.mg x1 = some c1) (m2 : X.mg x2 = some c2) (m3 : X.mg x3 = some c3)
    (hb : ∀ (W : WX) (pn : List (Addr × Obj)) (xe : Value → Shared → Prop), Takes (X.tr pn xe) W → PassesOwn (model X.prog X.w) X.A X.env xe → PSs (X.tr pn xe) body (tb W))
    (hsu : ∀ (a : Addr) (oe : Obj) (cls : Value) (d : Option Addr) (pn : List (Addr × Obj)), Zc cls d oe → (∃ vs, oe.data = .fields vs) → PSs (X.suite a ((a, oe) :: pn)) (b₀ :: suite) (ts a cls d))
    (g1 : Gl X x1 := by rfl) (g2 : Gl X x2 := by rfl) (g3 : Gl X x3 := by rfl) (d1 : (x1 == ("__debug__" : Str)) = false := by decide) (d2 : (x2 == ("__debug__" : Str)) = false := by decide) (d3 : (x3 == ("__debug__" : Str)) = false := by decide) :
    PS X (.Try body [.ExceptHandler (some (.Tuple [.Name x1 p1, .Name x2 p2, .Name x3 p3] k3 tp)) (some n) (b₀ :: suite) pos'] [] [] pos) (fun D σ H => tb (wTup X.K [c1, c2, c3] i ts D) D σ H) := by
  refine ⟨fun pins s σ H D I h => ?_⟩
  have ok := I.ok
  have hfr : X.A.frames = some (X.env :: X.outer) := by rw [ok.frames, hs]
  refine wpAny_Try_except ?_
  refine wpAny_mono ((hb (wTup X.K [c1, c2, c3] i ts D) (X.pn ++ pins) (fun e s₁ => wpAny (model X.prog X.w) X.A (noteFrame e X.env) (fun _ s₂ => wpAny (model X.prog X.w) X.A (setFlight e none) (fun _ s₃ =>
    wpAny (model X.prog X.w) X.A (handleBy e X.env [.ExceptHandler (some (.Tuple [.Name x1 p1, .Name x2 p2, .Name x3 p3] k3 tp)) (some n) (b₀ :: suite) pos']) (SP X pins D) X.xe s₃) X.xe s₂) X.xe s₁) (fun u s' xx => ?_) PassesOwn.looking).run [] s σ H D (I.toTry _) h) (fun f s1 hsp => ?_) (fun e s1 he => he)
  · obtain ⟨a, B, sI, pins', σ', H', cls, d, rfl, J', nb, up, sky, na, os, ag, hb1, hyes⟩ := xx
    have J : Inv X pins σ' H' sI := J'.ofTry ok
    have sky' : Sky B (X.env :: X.outer) a (Zc cls d) X.env.locals s'.heap := by rw [← hs]; exact sky
    show wpAny (model X.prog X.w) X.A (noteFrame (.ref a) X.env) _ _ _
    refine Sky.land Zc.steady hfr hf sky' fun h3 fl3 up3 => ?_
    have J3 : Inv X pins σ' H' { s' with heap := h3 } := J.landed nb fl3.1 (up.trans up3) os ag
    obtain ⟨oe3, vs3, he3, hz3, hd3⟩ := fl3.there
    have nfr : a ∉ frs (X.env :: X.outer) := fun hm => by
      obtain ⟨_, o', e', hnf⟩ := fl3.2.2.1.mem hm
      rw [he3] at e'
      cases e'
      exact hnf _ hd3
    have nL : a ≠ X.env.locals := fun z => nfr (List.mem_filterMap.mpr ⟨X.env, List.mem_cons_self, by rw [hf, z]⟩)
    have nF : a ∉ X.fs := fun hm => by
      obtain ⟨e, he, q⟩ := List.mem_filterMap.mp hm
      exact nfr (List.mem_filterMap.mpr ⟨e, List.mem_cons_of_mem _ he, q⟩)
    have S3 := J3.suite he3 hd3 na nL nF
    refine wpAny_handleBy_cons (codeAny_handlers_test ?_) (by intro q; cases q)
    refine wpAny_Tuple_spliced ?_
    refine Calls.spliced_cons (ld_glob (X := X.suite a ((a, oe3) :: (X.pn ++ pins))) S3 g1 m1 ?_ d1)
    refine Calls.spliced_cons (ld_glob (X := X.suite a ((a, oe3) :: (X.pn ++ pins))) S3 g2 m2 ?_ d2)
    refine Calls.spliced_cons (ld_glob (X := X.suite a ((a, oe3) :: (X.pn ++ pins))) S3 g3 m3 ?_ d3)
    refine Calls.spliced_nil ⟨by show 3 ≤ sizeLine; rw [sizeLine_eq]; decide, ?_⟩
    have kp : ∀ b o, h3.get? b = some o → (h3.push { cls := .type "tuple", data := .seq [c1, c2, c3].toArray }).get? b = some o := fun b o e => Heap.get?_push_of_some _ e
    have LT : PySem.W.Looks (model X.prog X.w) (h3.push { cls := .type "tuple", data := .seq [c1, c2, c3].toArray }) (typeOf (.ref a)) cls := fun A Q E s k q => wpAny_typeOf_ref (k _ _ (kp _ _ he3)) (by rw [hz3.1]; exact q)
    have LM := PySem.W.exm_tup3 (M := model X.prog X.w) (J3.kIn.keeps kp) LT (Heap.get?_push_size _ rfl) hb1
    refine LM.here ?_
    refine codeAny_handlers_suite_as ?_
    refine HandSPX.lands_againZ (flying_keeps fl3 kp) fun h4 fl4 up4 => ?_
    have J4 : Inv X pins σ' H' { s' with heap := h4 } := J.landed nb fl4.1 (((up.trans up3).trans (Heap.UpToSlots.of_keeps kp)).trans up4) os ag
    obtain ⟨oe4, vs4, he4, hz4, hd4⟩ := fl4.there
    have S4 := J4.suite he4 hd4 na nL nF
    refine store_ok (X := X.suite a ((a, oe4) :: (X.pn ++ pins))) (v := .ref a) S4 hN hi (.inl hln) rfl (fun s5 S5 => ?_) (.inr hln)
    refine wpAny_mono ((hsu a oe4 cls d (X.pn ++ pins) hz4 ⟨_, hd4⟩).run [] s5 _ H' _ S5 (hyes a na)) (fun f s6 hsp => ?_) (fun _ _ z => False.elim z)
    have end_ : ∀ {σ6 : L2.St} {H6 : Hp} {Q : Shared → Prop}, Inv (X.suite a ((a, oe4) :: (X.pn ++ pins))) [] σ6 H6 s6 → (∀ s7, Inv X pins (σ6.set i none) H6 s7 → Q s7) →
        wpAny (model X.prog X.w) X.A (do bindName X.env n .none; unbindBehindTheSuite X.env n pos') (fun _ s7 => Q s7) X.xe s6 := fun {σ6 H6 Q} S6 hq => gone_ok (S6.unsuite ok) hN hi hln hq
    cases f with
    | next =>
      obtain ⟨σ6, H6, S6, q6⟩ := hsp
      exact end_ S6 fun s7 J7 => ⟨_, _, J7, q6⟩
    | brk =>
      obtain ⟨σ6, H6, S6, q6⟩ := hsp
      exact end_ S6 fun s7 J7 => ⟨_, _, J7, q6⟩
    | cont =>
      obtain ⟨σ6, H6, S6, q6⟩ := hsp
      exact end_ S6 fun s7 J7 => ⟨_, _, J7, q6⟩
    | ret u =>
      obtain ⟨v6, σ6, H6, S6, r6, q6⟩ := hsp
      exact end_ S6 fun s7 J7 => ⟨_, _, _, J7, r6, q6⟩
  · cases f with
    | next =>
      obtain ⟨σ6, H6, S6, q6⟩ := hsp
      exact wpAny_execs_nil ⟨_, _, S6.ofTry ok, q6⟩
    | brk =>
      obtain ⟨σ6, H6, S6, q6⟩ := hsp
      exact ⟨_, _, S6.ofTry ok, q6⟩
    | cont =>
      obtain ⟨σ6, H6, S6, q6⟩ := hsp
      exact ⟨_, _, S6.ofTry ok, q6⟩
    | ret u =>
      obtain ⟨v6, σ6, H6, S6, r6, q6⟩ := hsp
      exact ⟨_, _, _, S6.ofTry ok, r6, q6⟩
end
/-! ### isinstance(e, ..), e the exception that the suite holds -/
def rIsA (K : PySem.W.Frag) (a : Addr) (cls : Value) (d : Option Addr) : List V → Hp → VK → Prop := fun xs H Q => ∃ (D : Addr) (c : V) (cv : Value) (b : Bool), cls = .ref D ∧ d = none ∧ ExcC K D ∧ xs = [.ref a, c] ∧ ClsV c cv ∧ PySem.W.kitOne K (.ref D) cv = some b ∧ Q (.bl b) H
def rIsAT (K : PySem.W.Frag) (a : Addr) (cls : Value) (d : Option Addr) : List V → Hp → VK → Prop := fun xs H Q => ∃ (D tp : Addr) (cs : List V) (us : List Value) (b : Bool), cls = .ref D ∧ d = none ∧ ExcC K D ∧ xs = [.ref a, .ref tp] ∧ H tp = some (.tup cs) ∧ Paired ClsV cs us ∧ PySem.W.kitAny K (.ref D) us = some b ∧ Q (.bl b) H
section
variable {X : Cx} {a : Addr} {cls : Value} {d : Option Addr} {oe : Obj} {pn : List (Addr × Obj)}
theorem suite_inst {pins : List (Addr × Obj)} {s : Shared} {σ : L2.St} {H : Hp} {D : Addr} (I : Inv (X.suite a ((a, oe) :: pn)) pins σ H s) (hz : Zc (.ref D) none oe) (hf : ∃ vs, oe.data = .fields vs) : PySem.W.InstAt s.heap a oe D none := by
  obtain ⟨hget, _⟩ := I.pin (a, oe) (List.mem_append.mpr (.inl List.mem_cons_self))
  obtain ⟨vs, hv⟩ := hf
  obtain ⟨oc, od, oda, osl⟩ := oe
  obtain ⟨h1, h2⟩ := hz
  dsimp only at h1 h2 hv
  subst h1 h2 hv
  exact ⟨hget, rfl, rfl, trivial⟩
theorem call_isA (hz : Zc cls d oe) (hf : ∃ vs, oe.data = .fields vs) : CallR (X.suite a ((a, oe) :: pn)) (.builtin "isinstance") (rIsA X.K a cls d) := by
  intro pins s σ H xs us Q I r h
  obtain ⟨D, c, cv, b, rfl, rfl, C, rfl, k, e, q⟩ := h
  obtain ⟨u1, u2, rfl, r1, r2⟩ := vals2 r
  have e2 := k.eq r2
  subst e2
  cases (show u1 = Value.ref a from r1)
  exact PySem.W.kia_one (PySem.W.handS_kitx_exc C.hg C.hk C.hs C.hd C.ha C.hn C.ht C.hm) I.kIn (suite_inst I hz hf) e (fun z => nomatch z) fun tk => ⟨.bl b, H, I.kept (t' := tk) fun _ _ z => z, rfl, q⟩
theorem call_isAT (hz : Zc cls d oe) (hf : ∃ vs, oe.data = .fields vs) : CallR (X.suite a ((a, oe) :: pn)) (.builtin "isinstance") (rIsAT X.K a cls d) := by
  intro pins s σ H xs us Q I r h
  obtain ⟨D, tp, cs, ws, b, rfl, rfl, C, rfl, hT, k, e, q⟩ := h
  obtain ⟨u1, u2, rfl, r1, r2⟩ := vals2 r
  cases (show u1 = Value.ref a from r1)
  cases (show u2 = Value.ref tp from r2)
  obtain ⟨_, its, rv, o, h1, h2, n, h3⟩ := (show ObjOk X.prog X.w H s.heap tp (.tup cs) from I.hok tp _ hT)
  have e3 := ClsV.all k rv
  subst e3
  obtain ⟨oc, od, dt, sl⟩ := o
  simp only at h2 h3
  subst h2 h3
  exact PySem.W.kia_tup (PySem.W.handS_kitx_exc C.hg C.hk C.hs C.hd C.ha C.hn C.ht C.hm) I.kIn (suite_inst I hz hf) h1 e (fun z => nomatch z) fun tk => ⟨.bl b, H, I.kept (t' := tk) fun _ _ z => z, rfl, q⟩
end
def excCB (x : Str) : Fx := fun K => He.eqO (PySem.W.findIn K (.ref (He.ga K x)) "__getattribute__") (some (some (.builtin "BaseException.__getattribute__"))) && (He.eqO (PySem.W.findIn K (.ref (He.ga K x)) "__getattr__") (some none) && (decide (PySem.W.subIn K (.ref (He.ga K x)) (.type "BaseException") = some true) && (PySem.W.hasDictIn K (He.ga K x) &&
  (He.eqO (PySem.W.findIn K (.ref (He.ga K x)) "__class__") (some (some (.builtin "object.__class__"))) && (He.eqO (PySem.W.specialIn K (.builtin "object.__class__") "__get__") (some (some (.builtin "getset_descriptor.__get__"))) && (decide (PySem.W.takesIn K (.builtin "object.__class__") = some true) && decide (PySem.W.mroIn K (He.ga K x) (.type "object") = some true)))))))
theorem excC_of {x : Str} {K : PySem.W.Frag} (h : excCB x K = true) : ExcC K (He.ga K x) := by
  obtain ⟨h1, h⟩ := He.ba h
  obtain ⟨h2, h⟩ := He.ba h
  obtain ⟨h3, h⟩ := He.ba h
  obtain ⟨h4, h⟩ := He.ba h
  obtain ⟨h5, h⟩ := He.ba h
  obtain ⟨h6, h⟩ := He.ba h
  obtain ⟨h7, h8⟩ := He.ba h
  exact ⟨He.eqO_ok h1, He.eqO_ok h2, of_decide_eq_true h3, h4, He.eqO_ok h5, He.eqO_ok h6, of_decide_eq_true h7, of_decide_eq_true h8⟩
def kitF (x y : Str) (b : Bool) : Fx := fun K => decide (PySem.W.kitOne K (.ref (He.ga K x)) (.ref (He.ga K y)) = some b)
def kitFT (x : Str) (y : String) (b : Bool) : Fx := fun K => decide (PySem.W.kitOne K (.ref (He.ga K x)) (.type y) = some b)
def exm3F (x : Str) (ys : List Str) : Fx := fun K => decide (PySem.W.exmAny K (.ref (He.ga K x)) (ys.map fun y => .ref (He.ga K y)) = some true)
end L3
set_option Elab.async false
set_option linter.all false
set_option maxRecDepth 100000
set_option maxHeartbeats 4000000
namespace L3
open PySem PySem.Spec PyProof.Rows L2
/-! ### repr of data with dicts in it -/
def keyD : Key → PyData
  | .inl i => .int i
  | .inr x => .str x
def zipK : List (Key × V) → List PyData → List (PyData × PyData)
  | (k, _) :: r, d :: ds => (keyD k, d) :: zipK r ds
  | _, _ => []
inductive Dq (K : PySem.W.Frag) (H : Hp) : V → PyData → Prop
  | non : Dq K H .non .none
  | bl (b : Bool) : Dq K H (.bl b) (.bool b)
  | int (i : Int) : Dq K H (.int i) (.int i)
  | str (x : Str) : Dq K H (.str x) (.str x)
  | lst {a : Addr} {xs : List V} {ds : List PyData} : SqL K H a xs → xs.length = ds.length → (∀ (i : Nat) (x : V) (d : PyData), xs[i]? = some x → ds[i]? = some d → Dq K H x d) → Dq K H (.ref a) (.list ds)
  | tup {a : Addr} {xs : List V} {ds : List PyData} : SqT K H a xs → xs.length = ds.length → (∀ (i : Nat) (x : V) (d : PyData), xs[i]? = some x → ds[i]? = some d → Dq K H x d) → Dq K H (.ref a) (.tuple ds)
  | dct {a : Addr} {kvs : List (Key × V)} {ds : List PyData} : H a = some (.dK kvs) → kvs.length = ds.length → (∀ (i : Nat) (k : Key) (x : V) (d : PyData), kvs[i]? = some (k, x) → ds[i]? = some d → Dq K H x d) → Dq K H (.ref a) (.dict (zipK kvs ds))
theorem Dq.mono {K : PySem.W.Frag} {H H' : Hp} {x : V} {d : PyData} (e : Ex H H') (h : Dq K H x d) : Dq K H' x d := by
  induction h with
  | non => exact .non
  | bl b => exact .bl b
  | int i => exact .int i
  | str x => exact .str x
  | lst s l _ ih => exact .lst (ex_sql e s) l ih
  | tup s l _ ih => exact .tup (ex_sqt e s) l ih
  | dct s l _ ih => exact .dct (e _ _ s) l ih
theorem all_reads {h : Heap} : ∀ (xs : List V) (ds : List PyData) (us : List Value), xs.length = ds.length → Vals xs us → (∀ (i : Nat) (x : V) (d : PyData), xs[i]? = some x → ds[i]? = some d → ∀ u, RelV x u → ∃ as, Reads h u d as ∧ sysModules ∉ as) → ∃ as, ReadsAll h us ds as ∧ sysModules ∉ as
  | [], [], _, _, r, _ => by
    cases r
    exact ⟨_, .nil, by simp⟩
  | x :: xs, d :: ds, _, l, r, h => by
    cases r with
    | cons r1 r2 =>
      obtain ⟨as, q1, n1⟩ := h 0 x d rfl rfl _ r1
      obtain ⟨bs, q2, n2⟩ := all_reads xs ds _ (by simpa using l) r2 fun i y e h1 h2 => h (i + 1) y e (by simpa using h1) (by simpa using h2)
      refine ⟨_, .cons q1 q2, fun z => ?_⟩
      rcases List.mem_append.mp z with z | z
      · exact n1 z
      · exact n2 z
theorem key_reads {h : Heap} {k : Key} {v : Value} (e : keyIs k v = true) : Reads h v (keyD k) [] := by
  rcases keyIs_shape e with ⟨i, t, rfl, rfl⟩ | ⟨x, t, rfl, rfl⟩
  · exact .int i t
  · exact .str x t
theorem kv_reads {P : Program} {w : World} {h : Heap} : ∀ (kvs : List (Key × V)) (ds : List PyData) (es : List DictEntry) (vs : List (Key × Value)), kvs.length = ds.length → KV kvs vs → Pairs (mixKind P w) es vs →
    (∀ (i : Nat) (k : Key) (x : V) (d : PyData), kvs[i]? = some (k, x) → ds[i]? = some d → ∀ u, RelV x u → ∃ as, Reads h u d as ∧ sysModules ∉ as) →
    ReadsAll h (es.map (·.key)) ((zipK kvs ds).map (·.1)) [] ∧ ∃ bs, ReadsAll h (es.map (·.val)) ((zipK kvs ds).map (·.2)) bs ∧ sysModules ∉ bs
  | [], [], es, vs, _, r, p, _ => by
    cases r
    cases p
    exact ⟨.nil, _, .nil, by simp⟩
  | (k, x) :: kvs, d :: ds, es, vs, l, r, p, h => by
    cases r with
    | cons r1 r2 =>
      cases p with
      | cons p1 p2 p3 =>
        obtain ⟨as, q1, n1⟩ := h 0 k x d rfl rfl _ r1.2
        obtain ⟨h1, bs, q2, n2⟩ := kv_reads kvs ds _ _ (by simpa using l) r2 p3 fun i k' y e h1 h2 => h (i + 1) k' y e (by simpa using h1) (by simpa using h2)
        refine ⟨ReadsAll.cons (as := []) (bs := []) (key_reads (by have e : k = _ := r1.1; subst e; exact p1)) h1, as ++ bs, ReadsAll.cons (by rw [← p2] at q1; exact q1) q2, fun z => ?_⟩
        rcases List.mem_append.mp z with z | z
        · exact n1 z
        · exact n2 z
/-- the part that is written holds sys.modules: a dict -/
def SysK (K : PySem.W.Frag) : Prop := ∃ o, K.lookup sysModules = some o ∧ o.cls = .type "dict"
def sysB : Fx := fun K => match K.lookup sysModules with
  | some o => match o.cls with
    | .type n => n == "dict"
    | _ => false
  | none => false
theorem sys_of {K : PySem.W.Frag} (h : sysB K = true) : SysK K := by
  unfold sysB at h
  split at h
  · rename_i o e
    split at h
    · rename_i n c
      have : n = "dict" := by simpa using h
      exact ⟨o, e, by rw [c, this]⟩
    · cases h
  · cases h
theorem Dq.reads {X : Cx} {pins : List (Addr × Obj)} {σ : L2.St} {H : Hp} {s : Shared} (I : Inv X pins σ H s) (S : SysK X.K) {x : V} {d : PyData} (h : Dq X.K H x d) : ∀ u, RelV x u → ∃ as, Reads s.heap u d as ∧ sysModules ∉ as := by
  obtain ⟨o1, k1, c1⟩ := S
  have g1 := I.kIn _ _ k1
  induction h with
  | non =>
    intro u r
    cases r
    exact ⟨_, .none, by simp⟩
  | bl b =>
    intro u r
    cases r
    exact ⟨_, .bool b, by simp⟩
  | int i =>
    rintro u ⟨t, rfl⟩
    exact ⟨_, .int i t, by simp⟩
  | str x =>
    rintro u ⟨t, rfl⟩
    exact ⟨_, .str x t, by simp⟩
  | @lst a xs ds hs l _ ih =>
    intro u r
    cases r
    obtain ⟨its, rv, ⟨o, n, ho, hc, _, hd⟩, _⟩ := I.list hs
    obtain ⟨as, hr, hn⟩ := all_reads xs ds its l rv ih
    refine ⟨_, .list ho hc hd hr, fun z => ?_⟩
    rcases List.mem_cons.mp z with z | z
    · rw [← z, g1] at ho
      cases ho
      rw [c1] at hc
      injection hc with z2
      exact absurd z2 (by decide)
    · exact hn z
  | @tup a xs ds hs l _ ih =>
    intro u r
    cases r
    obtain ⟨its, rv, ⟨o, ho, hc, n, hd⟩, _⟩ := I.tuple hs
    obtain ⟨as, hr, hn⟩ := all_reads xs ds its l rv ih
    exact ⟨_, .tuple ho hc hd hr, hn⟩
  | @dct a kvs ds hs l _ ih =>
    intro u r
    cases r
    obtain ⟨_, ns, vs, rk, o, es, ep, ho, ⟨hc, _, _⟩, hd, _, hp, _⟩ := dk_of I.hok hs
    obtain ⟨h1, bs, h2, hn⟩ := kv_reads kvs ds es.toList vs l rk hp ih
    refine ⟨_, .dict ho hc hd h1 h2, fun z => ?_⟩
    rcases List.mem_cons.mp z with z | z
    · rw [← z] at ns
      simp at ns
    · exact hn (by simpa using z)
@[irreducible] def rReprQ (K : PySem.W.Frag) : List V → Hp → VK → Prop := fun xs H Q => ∃ (a : Addr) (d : PyData), xs = [.ref a] ∧ Dq K H (.ref a) d ∧ d.showable = true ∧ d.depth ≤ 60 ∧ d.shown.length ≤ sizeLine ∧ Q (.str d.shown) H
theorem call_reprQ {X : Cx} {k : Nat} (S : SysK X.K) (hr : Rm k X.A) : CallR X (.builtin "repr") (rReprQ X.K) := by
  intro pins s σ H xs us Q I r h
  unfold rReprQ at h
  obtain ⟨a, d, rfl, hd, hs, hdp, hsz, q⟩ := h
  cases r with
  | cons r1 r2 =>
    cases r2
    obtain ⟨as, rd, nm⟩ := Dq.reads I S hd _ r1
    obtain rfl : _ = Value.ref a := r1
    refine repr_of_reads' rd hs (fun _ => nm) hr.gd (by have := hr.rm.un; omega) (fun _ _ e => e) (fun h' u tk hk => ?_) hsz
    exact ⟨.str d.shown, H, I.kept hk, ⟨u, rfl⟩, q⟩
/-- small data, shown -/
structure ShD (d : PyData) : Prop where
  ok : d.showable = true
  len : d.shown.length ≤ 5000
  dep : d.depth ≤ 3
theorem shd_int {i : Int} (h1 : -(10 ^ 150) < i) (h2 : i < 10 ^ 150) : ShD (.int i) := by
  obtain ⟨_, h3, h4⟩ := okD_tells (.int i) (okI_of h1 h2)
  exact ⟨h3, Nat.le_trans h4 (by show 1921 ≤ 5000; decide), by show 0 ≤ 3; decide⟩
theorem shd_list {ds : List PyData} (h : ∀ d ∈ ds, ShD d) (hl : ds.length ≤ 100) : PyData.showableAll ds = true ∧ PyData.depthAll ds ≤ 3 ∧ ((PyData.shownAll ds).map (·.length)).sum ≤ 5000 * ds.length := by
  induction ds with
  | nil => exact ⟨rfl, by show 0 ≤ 3; decide, by show 0 ≤ 0; decide⟩
  | cons d r ih =>
    obtain ⟨h1, h2, h3⟩ := ih (fun x hx => h x (List.mem_cons_of_mem _ hx)) (by simp at hl; omega)
    obtain ⟨g1, g2, g3⟩ := h d List.mem_cons_self
    refine ⟨?_, ?_, ?_⟩
    · show (d.showable && PyData.showableAll r) = true
      rw [g1, h1]
      rfl
    · show max d.depth (PyData.depthAll r) ≤ 3
      omega
    · show d.shown.length + ((PyData.shownAll r).map (·.length)).sum ≤ 5000 * (r.length + 1)
      omega
theorem rq_list {K : PySem.W.Frag} {H : Hp} {a : Addr} {ds : List PyData} {Q : VK} (h : Dq K H (.ref a) (.list ds)) (hs : ∀ d ∈ ds, ShD d) (hl : ds.length ≤ 100) (q : Q (.str (PyData.shown (.list ds))) H) : rReprQ K [.ref a] H Q := by
  unfold rReprQ
  obtain ⟨h1, h2, h3⟩ := shd_list hs hl
  refine ⟨a, _, rfl, h, h1, ?_, ?_, q⟩
  · show PyData.depthAll ds + 1 ≤ 60
    omega
  · have e := listText_len_le (PyData.shownAll ds)
    rw [PyData.shownAll_length] at e
    show (listText (PyData.shownAll ds)).length ≤ sizeLine
    rw [sizeLine_eq]
    omega
end L3
set_option Elab.async false
set_option linter.all false
set_option maxRecDepth 100000
set_option maxHeartbeats 4000000
namespace L3
open PySem PySem.Spec PyProof.Rows L2
theorem Rm.in1 {k : Nat} {A : Around} (r : Rm (k + 1) A) : Rm k A.in1 := ⟨r.rm.in1, r.gd⟩
section
variable {X : Cx} {k : Nat} {f C : Addr} {ks : List Str} {sp : Sp} {W : WX} {x m : Str} {p pos apos : Pos} {e o : Expr} {es : List Expr} {kws : List Keyword} {ta : TE} {t tk : TA}
/-- a def that runs somewhere below the body -/
theorem run_fcA {A : Around} {pins : List (Addr × Obj)} {σ : L2.St} {H : Hp} {s : Shared} {Q : VK} {us ws : List Value} {vs : List V} (F : Fc X.prog X.w X.K X.mg X.base k f ks sp) (hr : Rm k A) (hf : A.frames = X.A.frames) (hx : Takes X W)
    (I : Inv X pins σ H s) (r : Vals vs (us ++ ws)) (hl : ws.length = ks.length) (h : sp vs H Q (WE W σ)) : wpAny (model X.prog X.w) A (call (.ref f) us (ks.zip ws)) (EP X pins σ Q) X.xe s := by
  have e0 : Env0 X.prog X.w X.K X.mg X.base A X.stack s H := by
    have e := I.env0
    exact ⟨by rw [hf]; exact e.frames, e.mod, e.bs, e.bsz, e.funs, e.frf, e.hok, e.bare⟩
  refine wpAny_call (codeAny_mono (F A X.stack s H us ws vs Q (WE W σ) hr e0 r hl h) fun r s' hq => ?_)
  cases r with
  | error e => exact passAt hx σ pins H s e s' I hq
  | ok fl =>
    cases fl with
    | ret u => exact I.after hq
    | next => exact False.elim hq
    | brk => exact False.elim hq
    | cont => exact False.elim hq
/-- o.m(e, ..) of an instance of the class at C -/
def tMt (C : Addr) (m : Str) (sp : Sp) (W : WX) (ta : TE) (t : TA) : TE := fun σ H Q => ta σ H fun x H1 => ∃ a dx fs, x = .ref a ∧ H1 a = some (.ins C dx fs) ∧ fs.lookup m = none ∧ t σ H1 fun vs H2 => sp (x :: vs) H2 Q (WE W σ)
theorem c_meth {pl : Sem Bool} (he : PE X o ta) (c : Cls X.K C) (hm : Meth X.K C m f) (F : Fc X.prog X.w X.K X.mg X.base k f [] sp) (hr : Rm k X.A) (hx : Takes X W) (ha : PA X (e :: es) t)
    (hst : starEach (e :: es) X.env = (false, eval e X.env) :: starEach es X.env := by rfl) (hpl : (backTo pos (starEach es X.env)).any (·.1) = false := by rfl)
    (ht : eval (.Call (.Attribute o m apos) (e :: es) [] pos) X.env = (do
      let ov ← eval o X.env
      standAt apos.atName
      let (f, first) ← holding [ov] (getMethod ov m pl)
      callWith pos f first (backTo pos (starEach (e :: es) X.env)) (backToKw pos (keywordEach [] X.env))) := by rfl) :
    PE X (.Call (.Attribute o m apos) (e :: es) [] pos) (tMt C m sp W ta t) := by
  refine ⟨fun pins s σ H Q I h => ?_⟩
  refine PySem.W.methodCall_KW (pl := pl) (thn (he.run pins s σ H _ I h) fun u s1 ⟨x, H1, I1, rx, a, dx, fs, ex, ea, l, q⟩ => ?_) ht
  subst ex
  obtain rfl : u = Value.ref a := rx
  refine getmeth_ok I1 ea c hm l ?_
  refine PySem.W.callWith_K (first := [.ref a]) (h₀ := X.base) I.ok.mod.kin hm.kp (thn (ha.run pos pins s1 σ H1 _ I1 q) fun us s2 ⟨vs, H2, I2, r, q2⟩ => ⟨I2.kIn, ?_⟩) hst hpl
  exact run_fc (us := .ref a :: us) (ws := []) (vs := .ref a :: vs) F hr hx I2 (by rw [List.append_nil]; exact .cons rfl r) rfl q2
theorem c_meth0 {pl : Sem Bool} (he : PE X o ta) (c : Cls X.K C) (hm : Meth X.K C m f) (F : Fc X.prog X.w X.K X.mg X.base k f [] sp) (hr : Rm k X.A) (hx : Takes X W)
    (ht : eval (.Call (.Attribute o m apos) [] [] pos) X.env = (do
      let ov ← eval o X.env
      standAt apos.atName
      let (f, first) ← holding [ov] (getMethod ov m pl)
      callWith pos f first (backTo pos (starEach [] X.env)) (backToKw pos (keywordEach [] X.env))) := by rfl) :
    PE X (.Call (.Attribute o m apos) [] [] pos) (tMt C m sp W ta tNil) := by
  refine ⟨fun pins s σ H Q I h => ?_⟩
  refine PySem.W.methodCall_KW (pl := pl) (thn (he.run pins s σ H _ I h) fun u s1 ⟨x, H1, I1, rx, a, dx, fs, ex, ea, l, q⟩ => ?_) ht
  subst ex
  obtain rfl : u = Value.ref a := rx
  refine getmeth_ok I1 ea c hm l ?_
  exact PySem.W.callWith_K0 (first := [.ref a]) I1.kIn hm.kp (run_fc (us := [.ref a]) (ws := []) (vs := [.ref a]) F hr hx I1 (.cons rfl .nil) rfl q)
/-- o.m(k = v, ..) -/
def tMtK (C : Addr) (m : Str) (ks : List Str) (sp : Sp) (W : WX) (ta : TE) (tk : TA) : TE := fun σ H Q => ta σ H fun x H1 => ∃ a dx fs, x = .ref a ∧ H1 a = some (.ins C dx fs) ∧ fs.lookup m = none ∧ tk σ H1 fun zs H2 => zs.length = ks.length ∧ sp (x :: zs) H2 Q (WE W σ)
theorem c_methK0 {pl : Sem Bool} (he : PE X o ta) (c : Cls X.K C) (hm : Meth X.K C m f) (F : Fc X.prog X.w X.K X.mg X.base k f ks sp) (hr : Rm k X.A) (hx : Takes X W)
    (hkw : PK X kws tk) (hall : (backToKw pos (keywordEach kws X.env)).all (·.1.isSome) = true := by rfl) (hks : (backToKw pos (keywordEach kws X.env)).filterMap (·.1) = ks := by rfl)
    (hpl : ((backTo pos (starEach [] X.env)).any (·.1) || (backToKw pos (keywordEach kws X.env)).any (·.1.isNone)) = false := by rfl)
    (ht : eval (.Call (.Attribute o m apos) [] kws pos) X.env = (do
      let ov ← eval o X.env
      standAt apos.atName
      let (f, first) ← holding [ov] (getMethod ov m pl)
      callWith pos f first (backTo pos (starEach [] X.env)) (backToKw pos (keywordEach kws X.env))) := by rfl) :
    PE X (.Call (.Attribute o m apos) [] kws pos) (tMtK C m ks sp W ta tk) := by
  refine ⟨fun pins s σ H Q I h => ?_⟩
  refine PySem.W.methodCall_KW (pl := pl) (thn (he.run pins s σ H _ I h) fun u s1 ⟨x, H1, I1, rx, a, dx, fs, ex, ea, l, q⟩ => ?_) ht
  subst ex
  obtain rfl : u = Value.ref a := rx
  refine getmeth_ok I1 ea c hm l ?_
  refine PySem.W.callWith_KW0 (first := [.ref a]) (h₀ := X.base) I.ok.mod.kin hm.kp hall ?_ hpl
  refine thn (hkw.run pos pins s1 σ H1 _ I1 q) fun ws s2 ⟨zs, H2, I2, rz, l2, q2⟩ => ⟨I2.kIn, ?_⟩
  rw [hks]
  exact run_fc (us := [.ref a]) (vs := .ref a :: zs) F hr hx I2 (.cons rfl rz) (rz.length.symm.trans l2) q2
/-- o.m(e, .., k = v, ..) -/
def tMtN (C : Addr) (m : Str) (ks : List Str) (sp : Sp) (W : WX) (ta : TE) (t tk : TA) : TE := fun σ H Q => ta σ H fun x H1 => ∃ a dx fs, x = .ref a ∧ H1 a = some (.ins C dx fs) ∧ fs.lookup m = none ∧ t σ H1 fun vs H2 => tk σ H2 fun zs H3 => zs.length = ks.length ∧ sp (x :: (vs ++ zs)) H3 Q (WE W σ)
theorem c_methK {pl : Sem Bool} (he : PE X o ta) (c : Cls X.K C) (hm : Meth X.K C m f) (F : Fc X.prog X.w X.K X.mg X.base k f ks sp) (hr : Rm k X.A) (hx : Takes X W)
    (ha : PA X (e :: es) t) (hkw : PK X kws tk) (hall : (backToKw pos (keywordEach kws X.env)).all (·.1.isSome) = true := by rfl) (hks : (backToKw pos (keywordEach kws X.env)).filterMap (·.1) = ks := by rfl)
    (hst : starEach (e :: es) X.env = (false, eval e X.env) :: starEach es X.env := by rfl)
    (hpl : ((backTo pos (starEach (e :: es) X.env)).any (·.1) || (backToKw pos (keywordEach kws X.env)).any (·.1.isNone)) = false := by rfl)
    (ht : eval (.Call (.Attribute o m apos) (e :: es) kws pos) X.env = (do
      let ov ← eval o X.env
      standAt apos.atName
      let (f, first) ← holding [ov] (getMethod ov m pl)
      callWith pos f first (backTo pos (starEach (e :: es) X.env)) (backToKw pos (keywordEach kws X.env))) := by rfl) :
    PE X (.Call (.Attribute o m apos) (e :: es) kws pos) (tMtN C m ks sp W ta t tk) := by
  refine ⟨fun pins s σ H Q I h => ?_⟩
  refine PySem.W.methodCall_KW (pl := pl) (thn (he.run pins s σ H _ I h) fun u s1 ⟨x, H1, I1, rx, a, dx, fs, ex, ea, l, q⟩ => ?_) ht
  subst ex
  obtain rfl : u = Value.ref a := rx
  refine getmeth_ok I1 ea c hm l ?_
  refine PySem.W.callWith_KW (first := [.ref a]) (h₀ := X.base) I.ok.mod.kin hm.kp hall (thn (ha.run pos pins s1 σ H1 _ I1 q) fun us s2 ⟨vs, H2, I2, r, q2⟩ => ?_) hpl hst
  refine thn (hkw.run pos pins s2 σ H2 _ I2 q2) fun ws s3 ⟨zs, H3, I3, rz, l2, q3⟩ => ⟨I3.kIn, ?_⟩
  rw [hks]
  exact run_fc (us := .ref a :: us) (vs := .ref a :: (vs ++ zs)) F hr hx I3 (.cons rfl (r.append rz)) (rz.length.symm.trans l2) q3
/-! ### a new instance -/
theorem run_mk {pins : List (Addr × Obj)} {σ : L2.St} {H : Hp} {s : Shared} {Q : VK} {us ws : List Value} {vs : List V} (M : Mk X.K C f) (F : Fc X.prog X.w X.K X.mg X.base k f ks sp) (hr : Rm (k + 1) X.A) (hx : Takes X W)
    (I : Inv X pins σ H s) (r : Vals vs (us ++ ws)) (hl : ws.length = ks.length)
    (h : ∀ x dx, H x = none → H dx = none → dx ≠ x → sp (.ref x :: vs) (upd (upd H dx (.own x)) x (.ins C dx [])) (fun v H2 => v = .non ∧ Q (.ref x) H2) (WE W σ)) :
    wpAny (model X.prog X.w) X.A (call (.ref C) us (ks.zip ws)) (EP X pins σ Q) X.xe s := by
  have hq := h (s.heap.objs.size + 1) s.heap.objs.size (I.hok.fresh (Nat.le_succ _)) (I.hok.fresh (Nat.le_refl _)) (Nat.ne_of_lt (Nat.lt_succ_self _))
  have I2 := Inv.made (C := C) I
  refine wpAny_call (make_map (f := f) I.kIn M.makes M.init (beq_iff_eq.mp M.fn) (codeAny_mono (F _ X.stack _ _ (Value.ref (s.heap.objs.size + 1) :: us) ws (V.ref (s.heap.objs.size + 1) :: vs) _ (WE W σ) (hr.make C us (ks.zip ws))
    (I2.env0.make C us (ks.zip ws)) (.cons rfl r) hl hq) fun r s' hq' => ?_))
  cases r with
  | error e => exact passAt hx σ pins _ _ e s' I2 hq'
  | ok fl =>
    cases fl with
    | ret u =>
      obtain ⟨v, H', I3, rv, ev, q3⟩ := I2.after hq'
      subst ev
      exact ⟨rv, ⟨V.ref (s.heap.objs.size + 1), H', I3, rfl, q3⟩⟩
    | next => exact False.elim hq'
    | brk => exact False.elim hq'
    | cont => exact False.elim hq'
def tMk (C : Addr) (sp : Sp) (W : WX) (t : TA) : TE := fun σ H Q => t σ H fun vs H1 => ∀ x dx, H1 x = none → H1 dx = none → dx ≠ x →
  sp (.ref x :: vs) (upd (upd H1 dx (.own x)) x (.ins C dx [])) (fun v H2 => v = .non ∧ Q (.ref x) H2) (WE W σ)
theorem c_make (M : Mk X.K C f) (F : Fc X.prog X.w X.K X.mg X.base k f [] sp) (hr : Rm (k + 1) X.A) (hm : X.mg x = some (.ref C)) (hx : Takes X W)
    (ha : PA X (e :: es) t) (hg : Gl X x := by rfl) (hdb : (x == ("__debug__" : Str)) = false := by decide) (he : starEach (e :: es) X.env = (false, eval e X.env) :: starEach es X.env := by rfl) (hpl : (backTo pos (starEach es X.env)).any (·.1) = false := by rfl) :
    PE X (.Call (.Name x p) (e :: es) [] pos) (tMk C sp W t) := by
  refine ⟨fun pins s σ H Q I h => ?_⟩
  refine wpAny_Call_Name_kw (ld_glob I hg hm ?_ hdb)
  refine PySem.W.callWith_K (h₀ := X.base) I.ok.mod.kin M.kp (thn (ha.run pos pins s σ H _ I h) fun us s1 ⟨vs, H1, I1, r, q⟩ => ⟨I1.kIn, ?_⟩) he hpl
  exact run_mk (ws := []) M F hr hx I1 (by rw [List.append_nil]; exact r) rfl q
theorem c_make0 (M : Mk X.K C f) (F : Fc X.prog X.w X.K X.mg X.base k f [] sp) (hr : Rm (k + 1) X.A) (hm : X.mg x = some (.ref C)) (hx : Takes X W)
    (hg : Gl X x := by rfl) (hdb : (x == ("__debug__" : Str)) = false := by decide) : PE X (.Call (.Name x p) [] [] pos) (tMk C sp W tNil) := by
  refine ⟨fun pins s σ H Q I h => ?_⟩
  refine wpAny_Call_Name_kw (ld_glob I hg hm ?_ hdb)
  exact PySem.W.callWith_K0 I.kIn M.kp (run_mk (us := []) (ws := []) M F hr hx I .nil rfl h)
def tMkK (C : Addr) (ks : List Str) (sp : Sp) (W : WX) (t tk : TA) : TE := fun σ H Q => t σ H fun vs H1 => tk σ H1 fun zs H2 => zs.length = ks.length ∧ ∀ x dx, H2 x = none → H2 dx = none → dx ≠ x →
  sp (.ref x :: (vs ++ zs)) (upd (upd H2 dx (.own x)) x (.ins C dx [])) (fun v H3 => v = .non ∧ Q (.ref x) H3) (WE W σ)
theorem c_makeK (M : Mk X.K C f) (F : Fc X.prog X.w X.K X.mg X.base k f ks sp) (hr : Rm (k + 1) X.A) (hm : X.mg x = some (.ref C)) (hx : Takes X W)
    (ha : PA X (e :: es) t) (hkw : PK X kws tk) (hg : Gl X x := by rfl) (hall : (backToKw pos (keywordEach kws X.env)).all (·.1.isSome) = true := by rfl) (hks : (backToKw pos (keywordEach kws X.env)).filterMap (·.1) = ks := by rfl)
    (hdb : (x == ("__debug__" : Str)) = false := by decide) (he : starEach (e :: es) X.env = (false, eval e X.env) :: starEach es X.env := by rfl)
    (hpl : ((backTo pos (starEach (e :: es) X.env)).any (·.1) || (backToKw pos (keywordEach kws X.env)).any (·.1.isNone)) = false := by rfl) :
    PE X (.Call (.Name x p) (e :: es) kws pos) (tMkK C ks sp W t tk) := by
  refine ⟨fun pins s σ H Q I h => ?_⟩
  refine wpAny_Call_Name_kw (ld_glob I hg hm ?_ hdb)
  refine PySem.W.callWith_KW (h₀ := X.base) I.ok.mod.kin M.kp hall (thn (ha.run pos pins s σ H _ I h) fun us s1 ⟨vs, H1, I1, r, q⟩ => ?_) hpl he
  refine thn (hkw.run pos pins s1 σ H1 _ I1 q) fun ws s2 ⟨zs, H2, I2, rz, l2, q2⟩ => ⟨I2.kIn, ?_⟩
  rw [hks]
  exact run_mk M F hr hx I2 (r.append rz) (rz.length.symm.trans l2) q2
def tMkK0 (C : Addr) (ks : List Str) (sp : Sp) (W : WX) (tk : TA) : TE := fun σ H Q => tk σ H fun zs H2 => zs.length = ks.length ∧ ∀ x dx, H2 x = none → H2 dx = none → dx ≠ x →
  sp (.ref x :: zs) (upd (upd H2 dx (.own x)) x (.ins C dx [])) (fun v H3 => v = .non ∧ Q (.ref x) H3) (WE W σ)
theorem c_makeK0 (M : Mk X.K C f) (F : Fc X.prog X.w X.K X.mg X.base k f ks sp) (hr : Rm (k + 1) X.A) (hm : X.mg x = some (.ref C)) (hx : Takes X W)
    (hkw : PK X kws tk) (hg : Gl X x := by rfl) (hall : (backToKw pos (keywordEach kws X.env)).all (·.1.isSome) = true := by rfl) (hks : (backToKw pos (keywordEach kws X.env)).filterMap (·.1) = ks := by rfl)
    (hdb : (x == ("__debug__" : Str)) = false := by decide)
    (hpl : ((backTo pos (starEach [] X.env)).any (·.1) || (backToKw pos (keywordEach kws X.env)).any (·.1.isNone)) = false := by rfl) :
    PE X (.Call (.Name x p) [] kws pos) (tMkK0 C ks sp W tk) := by
  refine ⟨fun pins s σ H Q I h => ?_⟩
  refine wpAny_Call_Name_kw (ld_glob I hg hm ?_ hdb)
  refine PySem.W.callWith_KW0 (h₀ := X.base) I.ok.mod.kin M.kp hall ?_ hpl
  refine thn (hkw.run pos pins s σ H _ I h) fun ws s2 ⟨zs, H2, I2, rz, l2, q2⟩ => ⟨I2.kIn, ?_⟩
  rw [hks]
  exact run_mk (us := []) M F hr hx I2 rz (rz.length.symm.trans l2) q2
/-! ### len, str, repr of an instance by its own methods -/
/-- xs is one instance of C; the promise of its method, at it -/
def rOwn (C : Addr) (sp : Sp) (G : V → Prop) : List V → Hp → VK → Prop := fun xs H Q => ∃ a dx fs, xs = [.ref a] ∧ H a = some (.ins C dx fs) ∧ sp [.ref a] H (fun v H' => G v ∧ Q v H') (fun _ _ _ => False)
def isLen : V → Prop
  | .int n => 0 ≤ n ∧ n < 2 ^ 63
  | _ => False
def isTxt : V → Prop
  | .str _ => True
  | _ => False
end
section
variable {X : Cx} {k : Nat} {f C : Addr} {sp : Sp}
theorem call_lenO (hm : Meth X.K C "__len__" f) (F : Fc X.prog X.w X.K X.mg X.base k f [] sp) (hr : Rm (k + 1) X.A) :
    CallR X (.builtin "len") (rOwn C sp isLen) := by
  intro pins s σ H xs us Q I r h
  obtain ⟨a, dx, fs, rfl, ha, hsp⟩ := h
  obtain ⟨u, rfl, ru⟩ := vals1 r
  obtain rfl : u = Value.ref a := ru
  obtain ⟨mA, J, _⟩ := ins_get I.hok ha
  obtain ⟨od, J, _⟩ := J.look
  refine Calls.call_function_entry kind_len plain_len entry_len (args_len1 _) ?_
  unfold Builtin.«len»
  refine wpAny_bind (m := oneArg "len" _) (wpAny_pure ?_)
  have run := run_fcA (A := X.A.in1) (W := fun _ _ _ _ => False) (us := [.ref a]) (ws := []) (vs := [.ref a]) (σ := σ) F hr.in1 rfl takes0 I (.cons rfl .nil) rfl hsp
  refine wpAny_bind (m := callSpecial? (.ref a) (Str.ofString "__len__")) (PySem.W.special_fn I.kIn J hm.at_ (beq_iff_eq.mp hm.fn) (wpAny_mono run (fun v s' hv => ?_) fun _ _ y => y))
  obtain ⟨z, H', I', rz, gz, q⟩ := hv
  cases z with
  | int n =>
    obtain ⟨t, rfl⟩ := rz
    obtain ⟨h0, h1⟩ : 0 ≤ n ∧ n < 2 ^ 63 := gz
    refine wpAny_bind (wpAny_holding (wpAny_pure ?_))
    refine wpAny_bind (wpAny_letGo ?_)
    show wpAny _ _ (if n < 0 then _ else _) _ _ _
    rw [if_neg (by omega)]
    show wpAny _ _ (if n ≥ 2 ^ 63 then _ else _) _ _ _
    rw [if_neg (by omega)]
    exact wpAny_bind (wpAny_mkInt (wpAny_pure ⟨_, rfl, ⟨.int n, H', I'.tok _, ⟨_, rfl⟩, q⟩⟩))
  | _ => exact gz.elim
theorem call_reprO (hm : Meth X.K C "__repr__" f) (F : Fc X.prog X.w X.K X.mg X.base k f [] sp) (hr : Rm (k + 1) X.A) :
    CallR X (.builtin "repr") (rOwn C sp isTxt) := by
  intro pins s σ H xs us Q I r h
  obtain ⟨a, dx, fs, rfl, ha, hsp⟩ := h
  obtain ⟨u, rfl, ru⟩ := vals1 r
  obtain rfl : u = Value.ref a := ru
  obtain ⟨mA, J, _⟩ := ins_get I.hok ha
  obtain ⟨od, J, _⟩ := J.look
  refine Calls.call_function_entry PySem.F.kind_repr PySem.F.plain_repr PySem.F.entry_repr (PySem.F.args_repr1 _) ?_
  unfold Builtin.«repr»
  refine wpAny_bind (m := oneArg "repr" _) (wpAny_pure ?_)
  refine wpAny_bind (wpAny_cRoomFor (by have := hr.in1.rm.un; omega) ?_)
  refine wpAny_bind (wpAny_bind (J.type.here ((PySem.W.looks_findIn I.kIn hm.at_).here ?_)))
  show wpAny _ _ (if (some (Value.ref f)).isNone = true then _ else _) _ _ _
  rw [if_neg (by simp)]
  have run := run_fcA (A := X.A.in1) (W := fun _ _ _ _ => False) (us := [.ref a]) (ws := []) (vs := [.ref a]) (σ := σ) F hr.in1 rfl takes0 I (.cons rfl .nil) rfl hsp
  refine wpAny_bind (m := callSpecialIfBound? (.ref a) (Str.ofString "__repr__") _) (PySem.W.ifBound_K I.kIn J hm.at_ hm.fn (wpAny_mono run (fun v s' hv => ?_) fun _ _ y => y))
  obtain ⟨z, H', I', rz, gz, q⟩ := hv
  cases z with
  | str y =>
    obtain ⟨t, rfl⟩ := rz
    refine wpAny_bind (wpAny_isInstance (typeIs_str _ _ _) isSubtype_str_str ?_)
    first
      | exact wpAny_pure ⟨_, rfl, ⟨.str y, H', I', ⟨t, rfl⟩, q⟩⟩
      | (rw [if_pos rfl]; exact wpAny_pure ⟨_, rfl, ⟨.str y, H', I', ⟨t, rfl⟩, q⟩⟩)
      | (simp only [if_true]; exact wpAny_pure ⟨_, rfl, ⟨.str y, H', I', ⟨t, rfl⟩, q⟩⟩)
  | _ => exact gz.elim
theorem call_strO (hm : Meth X.K C "__str__" f) (F : Fc X.prog X.w X.K X.mg X.base k f [] sp) (hr : Rm (k + 2) X.A) :
    CallR X (.type "str") (rOwn C sp isTxt) := by
  intro pins s σ H xs us Q I r h
  obtain ⟨a, dx, fs, rfl, ha, hsp⟩ := h
  obtain ⟨u, rfl, ru⟩ := vals1 r
  obtain rfl : u = Value.ref a := ru
  obtain ⟨mA, J, _⟩ := ins_get I.hok ha
  obtain ⟨od, J, _⟩ := J.look
  have run := run_fcA (A := X.A.in1.in1) (W := fun _ _ _ _ => False) (us := [.ref a]) (ws := []) (vs := [.ref a]) (σ := σ) F hr.in1.in1 rfl takes0 I (.cons rfl .nil) rfl hsp
  refine PySem.W.kso_call (by have := hr.in1.in1.rm.un; omega) I.kIn J hm.at_ hm.fn (wpAny_mono run (fun v s' hv => ?_) fun _ _ y => y)
  obtain ⟨z, H', I', rz, gz, q⟩ := hv
  cases z with
  | str y =>
    obtain ⟨t, rfl⟩ := rz
    exact ⟨.str y, H', I', ⟨t, rfl⟩, q⟩
  | _ => exact gz.elim
end
/-! ### isinstance of instances -/
structure InsC (K : PySem.W.Frag) (C : Addr) : Prop where
  ha : PySem.W.findIn K (.ref C) "__class__" = some (some (.builtin "object.__class__"))
  hn : PySem.W.specialIn K (.builtin "object.__class__") "__get__" = some (some (.builtin "getset_descriptor.__get__"))
  ht : PySem.W.takesIn K (.builtin "object.__class__") = some true
  hm : PySem.W.mroIn K C (.type "object") = some true
def insB (x : Str) : Fx := fun K => He.eqO (PySem.W.findIn K (.ref (He.ga K x)) "__class__") (some (some (.builtin "object.__class__"))) && (He.eqO (PySem.W.specialIn K (.builtin "object.__class__") "__get__") (some (some (.builtin "getset_descriptor.__get__"))) &&
  (decide (PySem.W.takesIn K (.builtin "object.__class__") = some true) && decide (PySem.W.mroIn K (He.ga K x) (.type "object") = some true)))
theorem insC_of {x : Str} {K : PySem.W.Frag} (h : insB x K = true) : InsC K (He.ga K x) := by
  obtain ⟨h1, h⟩ := He.ba h
  obtain ⟨h2, h⟩ := He.ba h
  obtain ⟨h3, h4⟩ := He.ba h
  exact ⟨He.eqO_ok h1, He.eqO_ok h2, of_decide_eq_true h3, of_decide_eq_true h4⟩
theorem ty_ins {K : PySem.W.Frag} {H : Hp} {a C dx : Addr} {fs : List (Str × V)} (i : InsC K C) (c : Cls K C) (e : H a = some (.ins C dx fs)) : TyX K H (.ref a) (.ref C) := .base (.ins e c i.ha i.hn i.ht i.hm)
def kitBF (y : String) (x : Str) (b : Bool) : Fx := fun K => decide (PySem.W.kitOne K (.type y) (.ref (He.ga K x)) = some b)
def exm1F (x y : Str) (b : Bool) : Fx := fun K => decide (PySem.W.exmOne K (.ref (He.ga K x)) (.ref (He.ga K y)) = some b)
def sameF (x y m : Str) : Fx := fun K => decide (He.ma K (He.ga K x) m = He.ma K (He.ga K y) m)
/-! ### the same rules with the written part named (for bodies of comprehensions) -/
section
variable {X : Cx} {K : PySem.W.Frag}
theorem op_in_seqK (K : PySem.W.Frag) (h : X.K = K := by rfl) : OpR X (compareOp .In) (rIn K false) := h ▸ op_in_seq
theorem op_notIn_seqK (K : PySem.W.Frag) (h : X.K = K := by rfl) : OpR X (compareOp .NotIn) (rIn K true) := h ▸ op_notIn_seq
theorem ix_listK (K : PySem.W.Frag) (h : X.K = K := by rfl) : IxR X (rIxL K) := h ▸ ix_list
theorem ix_tupK (K : PySem.W.Frag) (h : X.K = K := by rfl) : IxR X (rIxT K) := h ▸ ix_tup
theorem call_lenK (K : PySem.W.Frag) (h : X.K = K := by rfl) : CallR X (.builtin "len") (fun xs H Q => ∃ x n, xs = [x] ∧ LenV K x H n ∧ Q (.int n) H) := h ▸ call_len
theorem pe_fldK (K : PySem.W.Frag) {e : Expr} {f : Str} {pos : Pos} {ta : TE} (he : PE X e ta) (hb : attributeBase e f X.env (eval e X.env) = eval e X.env) (h : X.K = K := by rfl) : PE X (.Attribute e f pos) (tFld K ta f) := h ▸ pe_fld he hb
theorem op_eqDK (K : PySem.W.Frag) (hu : X.A.units + 64 < cLine) (h : X.K = K := by rfl) : OpR X (compareOp .Eq) (rEqD K) := h ▸ op_eqD hu
theorem op_neDK (K : PySem.W.Frag) (hu : X.A.units + 64 < cLine) (h : X.K = K := by rfl) : OpR X (compareOp .NotEq) (rNeD K) := h ▸ op_neD hu
theorem cr_allK (K : PySem.W.Frag) (hc : X.calm = true) (h : X.K = K := by rfl) : CallR X (.builtin "all") (rAll K) := h ▸ cr_all hc
theorem call_reprK (K : PySem.W.Frag) {k : Nat} (hr : Rm k X.A) (h : X.K = K := by rfl) : CallR X (.builtin "repr") (rRepr K) := h ▸ call_repr hr
/-- repr(text) -/
theorem call_repr_str : CallR X (.builtin "repr") (fun xs H Q => ∃ x, xs = [.str x] ∧ (reprText x).length ≤ sizeLine ∧ Q (.str (reprText x)) H) := by
  intro pins s σ H xs us Q I r h
  obtain ⟨i, rfl, hz, q⟩ := h
  obtain ⟨u, rfl, t, rfl⟩ := vals1 r
  exact PySem.P.repr_of_str ⟨.str _, H, I.tok _, ⟨_, rfl⟩, q⟩ hz
end
end L3
set_option Elab.async false
set_option linter.all false
set_option maxRecDepth 100000
set_option maxHeartbeats 4000000
namespace L3
open PySem PySem.Spec PyProof.Rows L2
/-! ### repr of a plain text -/
def okC (c : Nat) : Bool := decide (32 ≤ c) && (decide (c ≤ 126) && (decide (c ≠ 39) && decide (c ≠ 92)))
theorem okC_char : ∀ {c : Nat}, okC c = true → Builtin.Str.reprChar 39 c = [c] := by
  have all : ∀ c, c < 127 → okC c = true → Builtin.Str.reprChar 39 c = [c] := by decide +kernel
  intro c h
  refine all c ?_ h
  have := of_decide_eq_true (Bool.and_eq_true_iff.mp (Bool.and_eq_true_iff.mp h).2).1
  omega
theorem repr_fold : ∀ (l : List Nat) (acc : Array Nat), l.all okC = true → l.foldl (fun out c => out ++ (Builtin.Str.reprChar 39 c).toArray) acc = acc ++ l.toArray
  | [], acc, _ => by simp
  | c :: r, acc, h => by
    obtain ⟨h1, h2⟩ := He.ba (show (okC c && r.all okC) = true from h)
    rw [List.foldl_cons, okC_char h1, repr_fold r _ h2]
    simp
theorem repr_plain {l : List Nat} (h : l.all okC = true) : reprText (SX.S l) = SX.S (39 :: l ++ [39]) := by
  have n39 : (SX.S l).cps.contains 39 = false := by
    cases e : (SX.S l).cps.contains 39 with
    | false => rfl
    | true =>
      have m : 39 ∈ l := by simpa using e
      exact absurd (List.all_eq_true.mp h 39 m) (by decide)
  have q : reprQuote (SX.S l) = 39 := by
    unfold reprQuote
    rw [n39]
    rfl
  unfold reprText
  rw [q]
  have e := repr_fold l #[39] h
  have e2 : (SX.S l).cps.foldl (fun out c => out ++ (Builtin.Str.reprChar 39 c).toArray) #[39] = l.foldl (fun out c => out ++ (Builtin.Str.reprChar 39 c).toArray) #[39] := by simp
  rw [e2, e]
  refine TL.ext_tl ?_
  show (((#[39] ++ l.toArray).push 39).toList) = _
  simp
theorem repr_plain_len {l : List Nat} (h : l.all okC = true) : (reprText (SX.S l)).length = l.length + 2 := by
  rw [repr_plain h, SX.S_len]
  simp
theorem okC_le {l : List Nat} (p : Nat → Bool) (hp : ∀ c, p c = true → okC c = true) (h : l.all p = true) : l.all okC = true := List.all_eq_true.mpr fun c hc => hp c (List.all_eq_true.mp h c hc)
/-! ### a comprehension whose items are not told one by one -/
section
variable {J : It} {n : Nat} {G : Hp → Prop} {Y : Nat → Hp → V → Hp → Prop} {g : TG} {tt : TT} {te : TE} {vs : List Nat} {σ : L2.St} {H1 : Hp} {D : Addr} {Qd : Hp → Prop}
theorem lc_any (w : L2.Walk J n G Y) (I : Nat → List V → Hp → Prop) (hI : ∀ i acc H l, I i acc H → I i acc (upd H D (.lst l))) (i0 : I 0 [] H1) (hn : n ≤ 100000) (hl : ∀ i acc H, I i acc H → acc.length ≤ i) (hG : ∀ i acc H, I i acc H → G H)
    (hs : ∀ (i : Nat) (x : V) (H H' : Hp) (acc : List V) (N : Hp → Prop), i < n → I i acc H → H D = some (.lst acc) → acc.length < sizeLine → Y i H x H' →
      (∀ y H4, H4 D = some (.lst acc) → I (i + 1) (acc ++ [y]) H4 → N (upd H4 D (.lst (acc ++ [y])))) → (∀ H4, H4 D = some (.lst acc) → I (i + 1) acc H4 → N H4) → Turn g tt te vs σ D x H' N)
    (hd : ∀ acc H, I n acc H → H D = some (.lst acc) → Qd H) :
    ∃ W : Nat → Nat → Hp → Prop, (∃ m, W 0 m (upd H1 D (.lst []))) ∧ ∀ i m H, W i m H →
      (J.stop i H ∧ Qd H) ∨ (J.go i H ∧ ∃ Nx : Hp → Prop, (∀ H', Nx H' → ∃ m', m' < m ∧ W (i + 1) m' H') ∧ ∀ x H', J.yld i H x H' → Turn g tt te vs σ D x H' Nx) := by
  refine L2.lc_it w (fun i H => i ≤ n ∧ ∃ acc, I i acc H ∧ H D = some (.lst acc)) ⟨Nat.zero_le _, [], hI _ _ _ _ i0, upd_same⟩ (fun i H _ p => ?_) ?_ (fun H p => ?_)
  · obtain ⟨_, acc, p, _⟩ := p
    exact hG i acc H p
  · rintro i x H H' hi ⟨p1, acc, p2, p3⟩ y
    have := hl _ _ _ p2
    refine hs i x H H' acc _ hi p2 p3 (small_len (by omega)) y (fun y H4 d4 i4 => ⟨hi, _, hI _ _ _ _ i4, upd_same⟩) fun H4 d4 i4 => ⟨hi, _, i4, d4⟩
  · obtain ⟨_, acc, p, d⟩ := p
    exact hd acc H p d
end
/-! ### try, its reading named -/
def tTryOnly (K : PySem.W.Frag) (c : Value) (ts : Addr → Value → Option Addr → TS) (Wout : WX) (tb : WX → TS) : TS := fun D σ H => tb (wOnly K c ts Wout D) D σ H
def tTryTup (K : PySem.W.Frag) (cs : List Value) (i : Nat) (ts : Addr → Value → Option Addr → TS) (tb : WX → TS) : TS := fun D σ H => tb (wTup K cs i ts D) D σ H
section
variable {X : Cx} {x x1 x2 x3 n : Str} {c c1 c2 c3 : Value} {i k3 : Nat} {body suite : List Stmt} {b₀ : Stmt} {np p1 p2 p3 tp pos pos' : Pos} {tb : WX → TS} {ts : Addr → Value → Option Addr → TS} {Wout : WX}
theorem ps_tryO (hs : X.stack = X.env :: X.outer) (hf : X.env.frame = some X.env.locals) (hc : Names X x c) (tk : Takes X Wout)
    (hb : ∀ (W : WX) (pn : List (Addr × Obj)) (xe : Value → Shared → Prop), Takes (X.tr pn xe) W → PassesOwn (model X.prog X.w) X.A X.env xe → PSs (X.tr pn xe) body (tb W))
    (hsu : ∀ (a : Addr) (oe : Obj) (cls : Value) (d : Option Addr) (pn : List (Addr × Obj)), Zc cls d oe → (∃ vs, oe.data = .fields vs) → PSs (X.suite a ((a, oe) :: pn)) (b₀ :: suite) (ts a cls d)) :
    PS X (.Try body [.ExceptHandler (some (.Name x np)) none (b₀ :: suite) pos'] [] [] pos) (tTryOnly X.K c ts Wout tb) := ps_try_only hs hf hc tk hb hsu
theorem ps_tryT (hs : X.stack = X.env :: X.outer) (hf : X.env.frame = some X.env.locals) (hN : X.N.Nodup) (hi : X.N[i]? = some n) (hln : X.env.kindOf n = some .local)
    (m1 : X.mg x1 = some c1) (m2 : X.mg x2 = some c2) (m3 : X.mg x3 = some c3)
    (hb : ∀ (W : WX) (pn : List (Addr × Obj)) (xe : Value → Shared → Prop), Takes (X.tr pn xe) W → PassesOwn (model X.prog X.w) X.A X.env xe → PSs (X.tr pn xe) body (tb W))
    (hsu : ∀ (a : Addr) (oe : Obj) (cls : Value) (d : Option Addr) (pn : List (Addr × Obj)), Zc cls d oe → (∃ vs, oe.data = .fields vs) → PSs (X.suite a ((a, oe) :: pn)) (b₀ :: suite) (ts a cls d))
    (g1 : Gl X x1 := by rfl) (g2 : Gl X x2 := by rfl) (g3 : Gl X x3 := by rfl) (d1 : (x1 == ("__debug__" : Str)) = false := by decide) (d2 : (x2 == ("__debug__" : Str)) = false := by decide) (d3 : (x3 == ("__debug__" : Str)) = false := by decide) :
    PS X (.Try body [.ExceptHandler (some (.Tuple [.Name x1 p1, .Name x2 p2, .Name x3 p3] k3 tp)) (some n) (b₀ :: suite) pos'] [] [] pos) (tTryTup X.K [c1, c2, c3] i ts tb) := ps_try_tup hs hf hN hi hln m1 m2 m3 hb hsu g1 g2 g3 d1 d2 d3
end
end L3
set_option Elab.async false
set_option linter.all false
set_option maxRecDepth 100000
set_option maxHeartbeats 4000000
/-! ### sorted(xs) of whole numbers, xs a list or a tuple -/
namespace SrtA
open PySem PyProof.Rows Srt SrtO
section
variable {prog : Program} {w : World} {A : Around} {E : Value → Shared → Prop} {s : Shared}
theorem collect_tup {l : Addr} {vs : List Value} {Q : List Value → Shared → Prop} (hl : s.heap.IsTuple l vs.toArray)
    (h : Q vs { s with heap := (s.heap.push (seqObj "list" #[] 0)).update s.heap.objs.size (Obj.mapSeq (· ++ vs.toArray)) }) (hsz : vs.length ≤ sizeLine) :
    wpAny (model prog w) A (collect (.ref l)) Q E s := by
  obtain ⟨o, ho, hc, n, hd⟩ := id hl
  unfold collect
  refine wpAny_bind (wpAny_runValue (codeAny_builtin entry_proto_collect' ?_))
  show wpAny _ _ (do again (.builtin "list.__iadd__" ⟨[← newList [], .ref l], []⟩)) _ _ s
  refine wpAny_bind (wpAny_newList (wpAny_pure ⟨Code.quiet_builtin _ (by decide +kernel), codeAny_builtin entry_list_iadd' ?_⟩))
  show wpAny _ _ (Builtin.List.listExtendWith (.ref s.heap.objs.size) (.ref l) (.ref s.heap.objs.size)) _ _ { s with heap := s.heap.push (seqObj "list" #[] 0) }
  unfold Builtin.List.listExtendWith
  have ho' : (s.heap.push (seqObj "list" #[] 0)).get? l = some o := Heap.get?_push_of_some _ ho
  refine wpAny_bind (wpAny_typeOf (T := "tuple") ⟨o, ho', hc⟩ ?_)
  have ht : (Value.type "tuple" == Value.type "tuple") = true := by rfl
  rw [if_pos (by rw [ht]; simp)]
  refine wpAny_bind (listItems_at ho' hd ?_)
  refine wpAny_bind (listItems_at (xs := #[]) (n := 0) (Heap.get?_push_size _ rfl) rfl ?_)
  rw [if_neg (by simp)]
  refine wpAny_bind (listUpdate_at (xs := #[]) (n := 0) (Heap.get?_push_size _ rfl) rfl ?_ (Nat.zero_le _) (by show (#[] ++ vs.toArray).size ≤ sizeLine + 1; simp only [Array.size_append, List.size_toArray, List.length_nil]; omega))
  refine wpAny_pure ?_
  show wpAny (model prog w) A (do
      let o ← load s.heap.objs.size
      match o.data with
      | .seq xs _ => pure xs.toList
      | _ => unsupported "internal:collect") Q E { s with heap := (s.heap.push (seqObj "list" #[] 0)).update s.heap.objs.size (Obj.mapSeq (· ++ vs.toArray)) }
  refine wpAny_bind (wpAny_load (get?_update_seq (Heap.get?_push_size _ rfl) _) ?_)
  show wpAny _ _ (pure ((#[] : Array Value) ++ vs.toArray).toList) Q E _
  rw [show ((#[] : Array Value) ++ vs.toArray).toList = vs by simp]
  exact wpAny_pure h
theorem sorted_tup {l : Addr} {vs : List Value} {ltv : Value → Value → Bool} {Q : Value → Shared → Prop} (O : Swo ltv) (hl : s.heap.IsTuple l vs.toArray) (hz : vs.length ≤ sizeLine)
    (hS : 2 ≤ vs.length → ∀ (h₁ : Heap) (a : Addr), h₁.get? a = some (seqObj "list" vs.toArray 0) → (∀ b o, s.heap.get? b = some o → b ≠ a ∧ h₁.get? b = some o) → SortableO prog w A.in1.in1 { s with heap := h₁ } a vs ltv)
    (h : ∀ out : List Value, Srtd ltv out → Stb ltv out vs → Q (.ref (s.heap.objs.size + 1)) { s with heap := sortedAll s.heap vs out.toArray }) :
    wpAny (model prog w) A (call (.builtin "sorted") [.ref l]) Q E s := by
  refine Calls.call_function_entry kind_sorted plain_sorted entry_sorted (args_sorted1 _) ?_
  unfold Builtin.«sorted»
  refine wpAny_bind (m := checkCount "sorted" 1 1 _) (wpAny_pure ?_)
  refine wpAny_bind (collect_tup hl ?_ hz)
  refine wpAny_bind (wpAny_newList ?_ hz)
  have hsz : ((s.heap.push (seqObj "list" #[] 0)).update s.heap.objs.size (Obj.mapSeq (· ++ vs.toArray))).objs.size = s.heap.objs.size + 1 := by
    rw [Heap.size_update, size_push']
  have hoL : (((s.heap.push (seqObj "list" #[] 0)).update s.heap.objs.size (Obj.mapSeq (· ++ vs.toArray))).push (seqObj "list" vs.toArray 0)).get? (s.heap.objs.size + 1) = some (seqObj "list" vs.toArray 0) := by
    rw [← hsz]; exact Heap.get?_push_size _ rfl
  have keep : ∀ b o, s.heap.get? b = some o → b ≠ s.heap.objs.size + 1 ∧ (((s.heap.push (seqObj "list" #[] 0)).update s.heap.objs.size (Obj.mapSeq (· ++ vs.toArray))).push (seqObj "list" vs.toArray 0)).get? b = some o := fun b o q => by
    have hlt : b < s.heap.objs.size := Heap.lt_size q
    refine ⟨Nat.ne_of_lt (Nat.lt_succ_of_lt hlt), Heap.get?_push_of_some _ ?_⟩
    rw [Heap.get?_update_ne _ _ _ _ (Nat.ne_of_lt hlt)]
    exact Heap.get?_push_of_some _ q
  show wpAny _ _ _ _ _ { s with heap := ((s.heap.push (seqObj "list" #[] 0)).update s.heap.objs.size (Obj.mapSeq (· ++ vs.toArray))).push (seqObj "list" vs.toArray 0) }
  rw [hsz]
  refine wpAny_bind (wpAny_holding (wpAny_call_entry slot_list_sort ⟨_, hoL, rfl⟩ entry_list_sort (list_sort_ord O hoL hz (fun h2 => hS h2 _ _ hoL keep) fun out hs hb => ⟨_, rfl, ?_⟩) (args_list_sort _)))
  exact wpAny_pure ⟨_, rfl, h out hs hb⟩
end
end SrtA
namespace L3
open PySem PySem.Spec PyProof.Rows L2
/-- the numbers in order -/
def srt (ns : List Int) : List Int := ns.mergeSort (fun a b => decide (a ≤ b))
theorem srt_perm (ns : List Int) : (srt ns).Perm ns := List.mergeSort_perm ns _
theorem srt_sorted (ns : List Int) : (srt ns).Pairwise (· ≤ ·) := by
  have h := List.pairwise_mergeSort (le := fun a b : Int => decide (a ≤ b)) (fun a b c h1 h2 => decide_eq_true (Int.le_trans (of_decide_eq_true h1) (of_decide_eq_true h2))) (fun a b => by
    rcases Int.le_total a b with h | h
    · rw [decide_eq_true h]; rfl
    · rw [decide_eq_true h, Bool.or_true]) ns
  exact h.imp fun h => of_decide_eq_true h
theorem sorted_uniq : ∀ {xs ys : List Int}, xs.Perm ys → xs.Pairwise (· ≤ ·) → ys.Pairwise (· ≤ ·) → xs = ys
  | [], ys, p, _, _ => p.nil_eq
  | x :: xs, [], p, _, _ => absurd p.symm.nil_eq (by simp)
  | x :: xs, y :: ys, p, hx, hy => by
    have e : x = y := by
      have h1 : x ∈ y :: ys := p.subset List.mem_cons_self
      have h2 : y ∈ x :: xs := p.symm.subset List.mem_cons_self
      have l1 : y ≤ x := by
        rcases List.mem_cons.mp h1 with h | h
        · omega
        · exact (List.pairwise_cons.mp hy).1 x h
      have l2 : x ≤ y := by
        rcases List.mem_cons.mp h2 with h | h
        · omega
        · exact (List.pairwise_cons.mp hx).1 y h
      omega
    subst e
    rw [sorted_uniq (List.perm_cons x |>.mp p) (List.pairwise_cons.mp hx).2 (List.pairwise_cons.mp hy).2]
theorem srt_eq {xs ns : List Int} (p : xs.Perm ns) (h : xs.Pairwise (· ≤ ·)) : xs = srt ns := sorted_uniq (p.trans (srt_perm ns).symm) h (srt_sorted ns)
/-- sorted(xs), xs a list or a tuple of whole numbers -/
def rSortedA (K : PySem.W.Frag) : List V → Hp → VK → Prop := fun vs H Q => ∃ (a : Addr) (ns : List Int), vs = [V.ref a] ∧ (SqL K H a (ns.map V.int) ∨ SqT K H a (ns.map V.int)) ∧ ∀ p : Addr, H p = none → Q (.ref p) (upd H p (.lst ((srt ns).map V.int)))
section
variable {X : Cx}
theorem cr_sortedA (K : PySem.W.Frag) (hK : X.K = K := by rfl) : CallR X (.builtin "sorted") (rSortedA K) := by
  subst hK
  intro pins s σ H vs us Q I r h
  obtain ⟨a, ns, rfl, hs | hs, q⟩ := h
  · exact cr_sortedI pins s σ H [.ref a] us Q I r ⟨a, ns, rfl, hs, fun ns' p h1 h2 hp => by rw [srt_eq h1 h2]; exact q p hp⟩
  · obtain ⟨its, rv, hl, hz⟩ := I.tuple hs
    rw [Vals.ref1 r]
    have hi := rv.ints
    refine SrtA.sorted_tup SrtO.swo_int hl (by rw [← rv.length]; exact hz) (fun h2 h₁ a' _ _ => SrtO.ints_sortable hi h2) fun out h1 h2 => ?_
    obtain ⟨k1, k2, k3⟩ := SrtO.ints_out hi h1 h2
    obtain ⟨ep, he'⟩ := PyProof.Rows.sortedAll_at s.heap its out.toArray
    have hlen : ((out.map SrtO.iv).map V.int).length ≤ sizeLine := by
      rw [List.length_map, k2.length_eq]
      rw [List.length_map] at hz
      exact hz
    have q2 := q (s.heap.objs.size + 1) (I.hok.fresh (Nat.le_succ _))
    rw [← srt_eq k2 k3] at q2
    exact ⟨.ref _, upd H (s.heap.objs.size + 1) (.lst ((out.map SrtO.iv).map V.int)), I.laid (t' := s.toks) (fun _ _ => PyProof.Rows.sortedAll_old) (Nat.le_succ _) ⟨hlen, out, ep, vals_of_ints k1, he'⟩, rfl, q2⟩
end
/-! ### what is a list or a tuple, walked; zip of tuples; targets with the written part named -/
section
variable {X : Cx} {K : PySem.W.Frag}
def iSeq (K : PySem.W.Frag) (tl : TE) : TI := fun σ H R => iList K tl σ H R ∨ iTup K tl σ H R
theorem pi_seq {tg l : Expr} {tl : TE} (hl : PE X l tl) : PI X tg l (iSeq X.K tl) := ⟨fun pins s σ H R I h => h.elim ((pi_list hl).run pins s σ H R I) ((pi_tup hl).run pins s σ H R I)⟩
theorem pg_tupK (K : PySem.W.Frag) {es : List Expr} {k : Nat} {t : TGs} {n : Nat} {pos : Pos} (hc : X.calm = true) (h : PGs X es t)
    (hn : (assignEach es X.env).length = n := by rfl) (hst : (assignEach es X.env).findIdx? (·.1) = none := by rfl) (hK : X.K = K := by rfl) : PG X (.Tuple es k pos) (gTup K n t) := hK ▸ pg_tup hc h hn hst
theorem walk_zipT {a b : Addr} {xs ys : List V} {n : Nat} (hn : n = min xs.length ys.length) : L2.Walk (RZ.ItzT K a b) n (fun H => SqT K H a xs ∧ SqT K H b ys) (L2.YPair (fun i => xs[i]?) (fun i => ys[i]?)) := by
  subst hn
  refine ⟨fun i _ hi q => ?_, fun _ q => ⟨xs, ys, q.1, q.2, by omega⟩, fun i H v H' _ q y => ?_⟩
  · have h1 : i < xs.length := by omega
    have h2 : i < ys.length := by omega
    exact ⟨xs, ys, xs[i], ys[i], q.1, q.2, by simp [h1], by simp [h2]⟩
  · obtain ⟨T, x, z, h1, h2, h3, h4, h5⟩ := y
    exact ⟨T, x, z, h1, h2, h3, h4 xs q.1, h5 ys q.2⟩
theorem inV_int (d : Int) (ns : List Int) : inV (.int d) (ns.map V.int) = decide (d ∈ ns) := by
  induction ns with
  | nil => rfl
  | cons n r ih =>
    show (eqV (.int n) (.int d) || inV (.int d) (r.map V.int)) = _
    rw [ih]
    have e : eqV (.int n) (.int d) = decide (d = n) := by
      show decide (n = d) = _
      exact decide_eq_decide.mpr ⟨fun h => h.symm, fun h => h.symm⟩
    rw [e]
    by_cases h : d = n
    · simp [h]
    · simp [h]
theorem flat_ints (ns : List Int) : (ns.map V.int).all flatV = true := by
  induction ns with
  | nil => rfl
  | cons n r ih => exact (Bool.and_eq_true_iff.mpr ⟨rfl, ih⟩)
end
theorem isM_nat (n : Nat) : isM (.int (n : Int)) = true := decide_eq_true (Int.natCast_nonneg n)
theorem isM_no {n : Nat} {C : Prop} (h : isM (.int (n : Int)) = false) : C := absurd ((isM_nat n).symm.trans h) Bool.noConfusion
end L3
set_option Elab.async false
set_option linter.all false
set_option maxRecDepth 100000
set_option maxHeartbeats 4000000
namespace L3
open PySem PySem.Spec PyProof.Rows L2
/-! ### sorted(d), d a dict of whole numbers, any many; list.sort of intsA at the model's level -/
section
variable {X : Cx}
def rSortedDI : List V → Hp → VK → Prop := fun xs H Q => ∃ (a : Addr) (kvs : List (Key × V)) (ks : List Int), xs = [.ref a] ∧ Rd H a (.dK kvs) ∧ kvs.map (·.1) = ks.map Sum.inl ∧ ∀ p : Addr, H p = none → Q (.ref p) (upd H p (.lst ((srt ks).map V.int)))
theorem call_sortedDA (cm : X.calm = true) : CallR X (.builtin "sorted") rSortedDI := by
  intro pins s σ H xs us Q I r q
  obtain ⟨a, kvs, ks, rfl, hd, kk, q⟩ := q
  obtain ⟨u, rfl, rx⟩ := vals1 r
  cases rx
  obtain ⟨zl, lo, vs, rel, dd⟩ := dk_rd I.hok hd
  obtain ⟨ep, hat⟩ := dd.dictAt
  have kv : vs.map (·.1) = ks.map Sum.inl := rel.keys.symm.trans kk
  have vl : vs.length = ks.length := by
    have := congrArg List.length kv
    simpa using this
  have sz : vs.length ≤ sizeLine := by rw [← rel.length]; exact zl
  refine Calls.call_function_entry kind_sorted plain_sorted entry_sorted (args_sorted1 _) ?_
  unfold Builtin.«sorted»
  refine wpAny_bind (m := checkCount "sorted" 1 1 _) (wpAny_pure ?_)
  refine wpAny_bind (PySem.W.kdu_collect (A := X.A.in1) (PySem.W.kdl_dict (knd := mixKind X.prog X.w) (kvs := vs) (ep := ep) lo) (I.ok.hd cm) hat sz fun h1 tk acc keep facc => ?_)
  have la : acc.toList.length = ks.length := by rw [Array.length_toList, facc.1, vl]
  have iv : IntsAre acc.toList ks := ints_each la fun j v e => by
    obtain ⟨k, x, e1, e2⟩ := facc.2 j v (by rw [← Array.getElem?_toList]; exact e)
    have f3 : (vs.map (·.1))[j]? = some k := by rw [List.getElem?_map, e1]; rfl
    rw [kv, List.getElem?_map] at f3
    obtain ⟨y, f4, f5⟩ := Option.map_eq_some_iff.mp f3
    subst f5
    rcases keyIs_shape (show keyIs (Sum.inl y) v = true from e2) with ⟨i, t, ek, ev⟩ | ⟨z, t, ek, ev⟩
    · cases ek
      exact ⟨y, t, f4, ev⟩
    · cases ek
  have J : Inv X pins σ H { s with heap := h1, toks := tk } := I.kept keep
  have l1 : acc.toList.length ≤ sizeLine := by rw [la, ← vl]; exact sz
  refine wpAny_bind (wpAny_newList ?_ l1)
  have at1 : (h1.push (seqObj "list" acc.toList.toArray 0)).get? h1.objs.size = some (seqObj "list" acc.toList.toArray 0) := Heap.get?_push_size _ rfl
  show wpAny _ _ _ _ _ { s with heap := h1.push (seqObj "list" acc.toList.toArray 0), toks := tk }
  refine wpAny_bind (wpAny_holding (wpAny_call_entry slot_list_sort ⟨_, at1, rfl⟩ entry_list_sort
    (SrtO.list_sort_ord (s := { s with heap := h1.push (seqObj "list" acc.toList.toArray 0), toks := tk }) SrtO.swo_int at1 l1 (fun h2 => SrtO.ints_sortable iv h2) fun out g1 g2 => ⟨_, rfl, ?_⟩) (args_list_sort _)))
  obtain ⟨k1, k2, k3⟩ := SrtO.ints_out iv g1 g2
  obtain ⟨e2, at2⟩ := sortedHeap_at (vs := acc.toList) (out := out.toArray) at1
  have ln : ((srt ks).map V.int).length ≤ sizeLine := by
    rw [List.length_map, (srt_perm ks).length_eq, ← la]
    exact l1
  have q2 := q h1.objs.size (J.hok.fresh (Nat.le_refl _))
  have es := srt_eq k2 k3
  refine wpAny_pure ⟨_, rfl, .ref h1.objs.size, _, J.laid (t' := tk) (fun b u e => ?_) (Nat.le_refl _) (show ObjOk X.prog X.w _ _ _ (.lst ((srt ks).map V.int)) from ⟨ln, out, e2, by rw [← es]; exact vals_of_ints k1, at2⟩), rfl, q2⟩
  have lt : b < h1.objs.size := Heap.lt_size e
  rw [sortedHeap_old (Nat.ne_of_lt lt) (by rw [size_push']; exact Nat.lt_succ_of_lt lt)]
  exact Heap.get?_push_of_some _ e
end
/-! ### set(xs), xs a list or a tuple of whole numbers; sorted of it -/
section
variable {P : Program} {w : World} {A : Around} {E : Value → Shared → Prop} {s : Shared}
abbrev newSet (w : World) : Obj := { cls := .type "set", dict := none, data := .set #[] 0 (.fresh 0 0 (!w.params.followText "set-order")) }
theorem call_set_lstI {l : Addr} {its : Array Value} (ns : List Int) {Q : Value → Shared → Prop} (calm : A.handled = none) (isl : s.heap.IsList l its) (intsA : IntsAre its.toList ns) (few : ns.length + 1 < scanBound)
    (fin : ∀ (h' : Heap) (tk c : Nat), SetR w h' s.heap.objs.size (fun j => decide (j ∈ ns)) c → c ≤ ns.length → (∀ b o, s.heap.get? b = some o → h'.get? b = some o) → Q (.ref s.heap.objs.size) { s with heap := h', toks := tk }) :
    wpAny (model P w) A (call (.type "set") [.ref l]) Q E s := by
  have size : its.size = ns.length := by
    have q := IntsAre.length intsA
    rwa [Array.length_toList] at q
  obtain ⟨c, tl, k1⟩ := F.called_set.mro
  have k2 := F.called_set.made
  have k3 := F.called_set.sub
  refine wpAny_call (codeAny_of_tree ?_)
  show wpAny _ _ (callAny (.type "set") _) _ _ _
  refine wpAny_pure ⟨Code.quiet_builtin _ (by decide +kernel), codeAny_builtin F.entry_type_call ?_⟩
  rw [Around.under_plain (weight_type_call_type "set" [.ref l] []) rfl]
  have k4 := F.called_set.notType
  have k5 := F.called_set.canCreate
  have k6 := F.typeCall_set_1 (.ref l)
  repeat (any_goals (first | assumption | wp_step))
  refine codeAny_mono (code_set_led1 (.ref l) (E := E) (Q₁ := fun obj z => obj = .ref s.heap.objs.size ∧ z = { s with heap := s.heap.push (newSet w) }) ⟨rfl, rfl⟩) fun r z hr => ?_
  cases r with
  | error e => exact hr
  | ok fl =>
    cases fl with
    | ret obj =>
      obtain ⟨rfl, rfl⟩ := hr
      have there : (s.heap.push (newSet w)).get? s.heap.objs.size = some (newSet w) := Heap.get?_push_size _ rfl
      have ty : Shared.TypeIs { s with heap := s.heap.push (newSet w) } (.ref s.heap.objs.size) "set" := ⟨_, there, rfl⟩
      have k7 := F.called_set.init.lookup
      have k8 := F.called_set.init.bind (.ref s.heap.objs.size)
      repeat (any_goals (first | assumption | wp_step))
      refine codeAny_mono (codeAny_call_builtin (R := wants (fun r z => r = .none ∧ ∃ h' tk c, z = { s with heap := h', toks := tk } ∧ SetR w h' s.heap.objs.size (fun j => decide (j ∈ ns)) c ∧ c ≤ ns.length ∧ (∀ b o, s.heap.get? b = some o → h'.get? b = some o)) E) F.called_set.init.plain F.entry_set_init (check_set_init_1 ty ?_)) fun r₂ z hr₂ => ?_
      · obtain ⟨⟨oc, od, oda, osl⟩, at0, e1, nl, e2⟩ := isl
        simp only at e1 e2
        subst e1; subst e2
        have at1 : (s.heap.push (newSet w)).get? l = some { cls := .type "list", dict := od, data := .seq its nl, slots := osl } := Heap.get?_push_of_some _ at0
        have m1 := F.sub_list_set
        have m2 := F.sub_list_frozenset
        have m3 : (Value.type "list" == Value.type "dict") = false := by decide
        have m4 : (s.heap.push (newSet w)).IsList l its := ⟨_, at1, rfl, nl, rfl⟩
        unfold Builtin.«set.__init__» noKeywords Builtin.Frozenset.updateFrom
        generalize hPI : pyIter = PI
        wp_walk
        subst hPI
        refine wpAny_pyIter_list m4 ?_
        refine wpAny_bind (wpAny_runValue ?_)
        have lt : l < s.heap.objs.size := Heap.lt_size at0
        have calm3 : A.in1.in1.in1.handled = none := by simp [calm]
        have ne1 : l ≠ (s.heap.push (newSet w)).objs.size := by
          rw [Heap.size_push]
          exact Nat.ne_of_lt (Nat.lt_succ_of_lt lt)
        have ne2 : s.heap.objs.size ∉ [(s.heap.push (newSet w)).objs.size, l] := by
          rw [Heap.size_push]
          intro hm
          rcases List.mem_cons.mp hm with hm | hm
          · exact Nat.ne_of_lt (Nat.lt_succ_self _) hm
          · exact Nat.ne_of_gt lt (List.mem_singleton.mp hm)
        have vals : ∀ (i : Nat) (v : Value), its[i]? = some v → ∃ k t, ns[i]? = some k ∧ v = .int k t := fun i v hv => by
          have hi : i < ns.length := by rw [← size]; exact (Array.getElem?_eq_some_iff.mp hv).1
          obtain ⟨t, e⟩ := IntsAre.int_at intsA i v (by rw [Array.getElem?_toList]; exact hv)
          refine ⟨ns[i], t, List.getElem?_eq_getElem hi, ?_⟩
          rw [e, List.getD_eq_getElem?_getD, List.getElem?_eq_getElem hi] <;> rfl
        refine set_update_ints ((Walks.list calm3 _ l ne1 its).toS) s.heap.objs.size ne2 ns size few vals (its.size - 0) 0 _ (by omega) (Nat.zero_le _) ⟨⟨_, Heap.get?_push_size _ rfl, rfl, rfl⟩, (m4.push _)⟩ ?g1 ?g2
        case g1 =>
          have at2 : ((s.heap.push (newSet w)).push { cls := .type "list_iterator", data := .fields #[.ref l, .int 0 0] }).get? s.heap.objs.size = some (newSet w) := Heap.get?_push_of_some _ there
          exact ⟨0, Nat.le_refl 0, setR_new_at at2⟩
        case g2 =>
          intro z c2 mv lc sr
          obtain ⟨h2, gn, dr, tk2, os2⟩ := z
          have e1 : gn = s.gens := mv.gens
          have e2 : dr = s.drawn := mv.drawn
          have e3 : os2 = s.os := mv.os
          subst e1; subst e2; subst e3
          show wpAny _ _ _ _ _ _
          refine wpAny_pure ?_
          show wpAny _ _ (ret Value.none) _ _ _
          rw [size] at lc
          refine wpAny_pure ⟨rfl, h2, tk2, c2, rfl, sr, lc, fun b o e => ?_⟩
          have l0 : b < s.heap.objs.size := Heap.lt_size e
          refine mv.heap b o (fun hm => ?_) (Heap.get?_push_of_some _ (Heap.get?_push_of_some _ e))
          rcases List.mem_cons.mp hm with hm | hm
          · exact Nat.ne_of_lt l0 hm
          · have e9 := List.mem_singleton.mp hm
            rw [Heap.size_push] at e9
            exact Nat.ne_of_lt (Nat.lt_succ_of_lt l0) e9
      · cases r₂ with
        | error e => exact hr₂
        | ok fl₂ =>
          cases fl₂ with
          | ret r =>
            obtain ⟨rfl, h', tk, c', rfl, sr, lc, kp⟩ := hr₂
            repeat (any_goals (first | assumption | wp_step))
            exact fin _ _ _ sr lc kp
          | _ => exact hr₂.elim
    | _ => exact hr.elim
/-- sorted(x), x a set of whole numbers -/
theorem sorted_setA {a : Addr} {S : Int → Bool} {n : Nat} {Q : Value → Shared → Prop} (R : SetR w s.heap a S n) (calm : A.handled = none)
    (fin : ∀ z p (out : List Value) (c : Nat) (ns : List Int), (∀ b o, s.heap.get? b = some o → z.heap.get? b = some o) → z.gens = s.gens → z.os = s.os → s.heap.objs.size ≤ p →
      z.heap.get? p = some (seqObj "list" out.toArray c) → IntsAre out ns → ns.Pairwise (· < ·) → (∀ k, k ∈ ns ↔ S k = true) → ns.length ≤ sizeLine ∧ ns.length = n → Q (.ref p) z) :
    wpAny (model P w) A (call (.builtin "sorted") [.ref a]) Q E s := by
  obtain ⟨o, es, ep, t, ho, hex, hd, g, nd, hm, hb, hf, hn, hr, hl⟩ := R
  refine Calls.call_function_entry kind_sorted plain_sorted entry_sorted (args_sorted1 _) ?_
  unfold Builtin.«sorted»
  refine wpAny_bind (m := checkCount "sorted" 1 1 _) (wpAny_pure ?_)
  refine wpAny_bind (collect_set (A := A.in1) calm ⟨o, ho, hex.1, hd⟩ hf hb hr hl fun z1 vs keep zl g1 o1 pm => ?_)
  have vn : vs.length = n := by rw [pm.length_eq, List.length_map, Array.length_toList]; exact hn
  have iv : IntsAre vs (vs.map Builtin.Re.reRawOf) := ints_of vs fun v hv => by
    obtain ⟨e, he, q⟩ := List.mem_map.mp (pm.mem_iff.mp hv)
    obtain ⟨k, tk, h1, _⟩ := g e he
    exact ⟨k, tk, by rw [← q]; exact h1⟩
  have pk : (vs.map Builtin.Re.reRawOf).Perm (es.toList.map keyOf) := by
    have := pm.map Builtin.Re.reRawOf
    rwa [List.map_map] at this
  have lz : vs.length ≤ sizeLine := by
    rw [vn, sizeLine_eq, ← hn]
    unfold scanBound at hb
    omega
  refine wpAny_bind (wpAny_newList ?_ lz)
  have at1 : (z1.heap.push (seqObj "list" vs.toArray 0)).get? z1.heap.objs.size = some (seqObj "list" vs.toArray 0) := Heap.get?_push_size _ rfl
  refine wpAny_bind (wpAny_holding (wpAny_call_entry slot_list_sort ⟨_, at1, rfl⟩ entry_list_sort (SrtO.list_sort_ord SrtO.swo_int at1 lz (fun h2 => SrtO.ints_sortable iv h2) fun out q1 q2 => ⟨_, rfl, ?_⟩) (args_list_sort _)))
  obtain ⟨k1, k2, k3⟩ := SrtO.ints_out iv q1 q2
  obtain ⟨c, at2⟩ := sortedHeap_at (vs := vs) (out := out.toArray) at1
  have pn : (out.map SrtO.iv).Perm (es.toList.map keyOf) := k2.trans pk
  refine wpAny_pure ⟨_, rfl, fin _ z1.heap.objs.size out c (out.map SrtO.iv) (fun b u e => ?_) g1 o1 zl at2 k1 (lt_of_le_nodup _ k3 (pn.nodup_iff.mpr nd)) (fun k => by rw [pn.mem_iff, ← hm k]) ?_⟩
  · have q := keep b u e
    have lt := Heap.lt_size q
    show (sortedHeap (z1.heap.push (seqObj "list" vs.toArray 0)) z1.heap.objs.size vs out.toArray).get? b = some u
    rw [sortedHeap_old (Nat.ne_of_lt lt) (by rw [size_push']; exact Nat.lt_succ_of_lt lt)]
    exact Heap.get?_push_of_some _ q
  · rw [pn.length_eq, ← pk.length_eq, List.length_map]
    exact ⟨lz, vn⟩
end
section
variable {X : Cx}
/-- set(xs) -/
def rSetI (w : World) (K : PySem.W.Frag) : List V → Hp → VK → Prop := fun xs H Q => ∃ (a : Addr) (ns : List Int), xs = [.ref a] ∧ (SqL K H a (ns.map V.int) ∨ SqT K H a (ns.map V.int)) ∧ ns.length ≤ 4000 ∧ ∀ p n, H p = none → n ≤ ns.length → Q (.ref p) (upd H p (SetO w p (fun j => decide (j ∈ ns)) n))
theorem cr_setI (K : PySem.W.Frag) (cm : X.calm = true) (hK : X.K = K := by rfl) : CallR X (.type "set") (rSetI X.w K) := by
  subst hK
  intro pins s σ H xs us Q I r h
  obtain ⟨a, ns, rfl, hs, few, q⟩ := h
  rw [Vals.ref1 r]
  have done : ∀ (h' : Heap) (tk c : Nat), SetR X.w h' s.heap.objs.size (fun j => decide (j ∈ ns)) c → c ≤ ns.length → (∀ b o, s.heap.get? b = some o → h'.get? b = some o) → EP X pins σ Q (.ref s.heap.objs.size) { s with heap := h', toks := tk } := fun h' tk c R lc keep =>
    ⟨.ref _, upd H s.heap.objs.size (SetO X.w s.heap.objs.size (fun j => decide (j ∈ ns)) c), I.laid (t' := tk) keep (Nat.le_refl _) (setO_new R), rfl, q _ c (I.hok.fresh (Nat.le_refl _)) lc⟩
  have sb : ns.length + 1 < scanBound := by unfold scanBound; omega
  rcases hs with hs | hs
  · obtain ⟨its, rv, pl, hz⟩ := I.list hs
    exact call_set_lstI ns (I.ok.hd cm) pl.isList (by simpa using ints_of_vals rv) sb done
  · obtain ⟨its, rv, pl, hz⟩ := I.tuple hs
    exact call_set_tupI ns (I.ok.hd cm) (show s.heap.IsTuple a its.toArray from pl) (by simpa using ints_of_vals rv) sb done
def rSortedS (w : World) : List V → Hp → VK → Prop := fun vs H Q => ∃ (a : Addr) (S : Int → Bool) (n : Nat), vs = [V.ref a] ∧ H a = some (SetO w a S n) ∧
  ∀ (ns : List Int) (p : Addr), ns.Pairwise (· < ·) → (∀ k : Int, k ∈ ns ↔ S k = true) → ns.length = n → H p = none → Q (.ref p) (upd H p (.lst (ns.map V.int)))
theorem cr_sortedSA (cm : X.calm = true) : CallR X (.builtin "sorted") (rSortedS X.w) := by
  intro pins s σ H vs us Q I r h
  obtain ⟨a, S, n, rfl, ha, q⟩ := h
  have R := setO_get I ha
  rw [Vals.ref1 r]
  refine sorted_setA R (I.ok.hd cm) fun z p out c ns keep g o hp hg hi hs hm hl => ?_
  have ln : (ns.map V.int).length ≤ sizeLine := by rw [List.length_map]; exact hl.1
  have hn : H p = none := I.hok.fresh hp
  have J : Inv X pins σ (upd H p (.lst (ns.map V.int))) { s with heap := z.heap, gens := z.gens, drawn := z.drawn, toks := z.toks } :=
    I.call (ch := []) (Un.laid keep hp hn) (I.hok.laid keep hp ⟨ln, out, c, vals_of_ints hi, hg⟩) (by rw [g]; exact I.bare) (fun _ z => nomatch z)
  have e : z = { s with heap := z.heap, gens := z.gens, drawn := z.drawn, toks := z.toks } := by
    cases z; cases s; cases o; rfl
  rw [e]
  exact ⟨.ref p, _, J, rfl, q ns p hs hm hl.2 hn⟩
end
end L3
set_option Elab.async false
set_option linter.all false
set_option maxRecDepth 100000
set_option maxHeartbeats 4000000
/-! ### ranges of whole numbers of any size -/
namespace LR
open PySem PySem.Builtin.Range
theorem own_l : Manifest.owners.lookup (String.ofList ['r', 'o', 't', 'a', 'r', 'e', 't', 'i', '_', 'e', 'g', 'n', 'a', 'r', 'g', 'n', 'o', 'l'].reverse) = some Manifest.sig_longrange_iterator := by kernel_rfl
theorem slot_l_next : Slot "longrange_iterator" "__next__" "longrange_iterator.__next__" :=
  .of (owner := "longrange_iterator") (n := "__next__") (by rw [typeLookup_type, builtinLookup_eq_fast]; kernel_rfl) (by decide +kernel) (by decide +kernel) (by decide +kernel) (by first | exact .inl (by decide +kernel) | exact .inr (by decide +kernel)) (by rw [isSubtype_type]; kernel_rfl)
theorem slot_l_iter : Slot "longrange_iterator" "__iter__" "longrange_iterator.__iter__" :=
  .of (owner := "longrange_iterator") (n := "__iter__") (by rw [typeLookup_type, builtinLookup_eq_fast]; kernel_rfl) (by decide +kernel) (by decide +kernel) (by decide +kernel) (by first | exact .inl (by decide +kernel) | exact .inr (by decide +kernel)) (by rw [isSubtype_type]; kernel_rfl)
theorem entry_l_next : entryFor table "longrange_iterator.__next__" = some Builtin.«longrange_iterator.__next__» := entryFor_of_tree (by kernel_rfl)
theorem entry_l_iter : entryFor table "longrange_iterator.__iter__" = some Builtin.«dict_keyiterator.__iter__» :=
  entryFor_alias (id' := "dict_keyiterator.__iter__") (by kernel_rfl) (by first | rfl | decide +kernel | (unfold String.splitOn; simp +decide [String.splitOnAux])) (by decide +kernel) (by kernel_rfl)
theorem args_l_next (a : Value) : argsOk "longrange_iterator.__next__" ⟨[a], []⟩ := by
  unfold argsOk
  rw [signature?_of (id := "longrange_iterator.__next__") (n := ['_', '_', 't', 'x', 'e', 'n', '_', '_']) (o := ['r', 'o', 't', 'a', 'r', 'e', 't', 'i', '_', 'e', 'g', 'n', 'a', 'r', 'g', 'n', 'o', 'l']) (by kernel_rfl) own_l]
  kernel_rfl
theorem args_l_iter (a : Value) : argsOk "longrange_iterator.__iter__" ⟨[a], []⟩ := by
  unfold argsOk
  rw [signature?_of (id := "longrange_iterator.__iter__") (n := ['_', '_', 'r', 'e', 't', 'i', '_', '_']) (o := ['r', 'o', 't', 'a', 'r', 'e', 't', 'i', '_', 'e', 'g', 'n', 'a', 'r', 'g', 'n', 'o', 'l']) (by kernel_rfl) own_l]
  kernel_rfl
def rin (b : Bool) : String := if b then "range_iterator" else "longrange_iterator"
/-- a range's iterator, short or long -/
def IsRI (b : Bool) (h : Heap) (it : Addr) (x left step : Int) : Prop := h.get? it = some { cls := .type (rin b), dict := none, data := .fields #[rawInt x, rawInt left, rawInt step], slots := #[] }
section
variable {prog : Program} {w : World} {A : Around} {E : Value → Shared → Prop} {s : Shared}
theorem iter_any {r : Addr} {a b c : Int} {t u v : Tok} {Q : Value → Shared → Prop} (hr : IsRange s.heap r a b c t u v)
    (q : Q (.ref s.heap.objs.size) { s with heap := s.heap.push { cls := .type (rin (small a b c)), data := .fields #[rawInt a, rawInt (rangeSize a b c), rawInt c] } }) :
    wpAny (model prog w) A (pyIter (.ref r)) Q E s := by
  cases e : small a b c with
  | true =>
    rw [e] at q
    exact wpAny_pyIter_range hr e q
  | false =>
    rw [e] at q
    have ty : s.TypeIs (.ref r) "range" := ⟨_, hr, rfl⟩
    unfold small at e
    refine wpAny_pyIter_slot ty F.slot_range_iter (call_meets F.slot_range_iter ty F.entry_range_iter (F.args_range_iter_1 _) (AutoRange.range___iter___range_0 r a b c t u v (by simp [e])) ⟨hr, ?_⟩)
    simp only [e]
    exact ⟨"longrange_iterator", _, ⟨_, Heap.get?_push_size _ rfl, rfl⟩, slot_l_next.lookup, q⟩
theorem next_l (it : Addr) (x left step : Int) (more : ¬left ≤ 0) :
    Meets (Builtin.«longrange_iterator.__next__» ⟨[.ref it], []⟩) (fun _ R s => IsRI false s.heap it x left step ∧ R (.ok (.ret (Value.int x s.toks))) { s with heap := (s.heap.update it (Obj.mapFields fun y => y.setIfInBounds 0 (rawInt (x + step)))).update it (Obj.mapFields fun y => y.setIfInBounds 1 (rawInt (left - 1))), toks := s.toks + 1 }) :=
  .of_wp fun prog w A R s h => by
    obtain ⟨hp, g, d, tk, os⟩ := s
    obtain ⟨at0, h⟩ := h
    have at1 : hp.get? it = some { cls := .type "longrange_iterator", dict := none, data := .fields #[rawInt x, rawInt left, rawInt step], slots := #[] } := at0
    clear at0
    wp_walk
    exact ⟨_, rfl, h⟩
theorem item_any {bb : Bool} {it : Addr} {x left step : Int} {Q : Option Value → Shared → Prop} (hit : IsRI bb s.heap it x left step) (more : 0 < left)
    (q : ∀ h', IsRI bb h' it (x + step) (left - 1) step → Heap.SameBut it s.heap h' → Q (some (.int x s.toks)) { s with heap := h', toks := s.toks + 1 }) :
    wpAny (model prog w) A (pyNext (.ref it)) Q E s := by
  cases bb with
  | true => exact wpAny_pyNext_range_item hit more q
  | false =>
    have ty : s.TypeIs (.ref it) "longrange_iterator" := ⟨_, hit, rfl⟩
    unfold pyNext
    refine wpAny_bind (wpAny_attempt (wpAny_callSpecial?_slot (name := Str.ofString "__next__") ty slot_l_next (call_meets slot_l_next ty entry_l_next (args_l_next _) (next_l it x left step (by omega)) ⟨hit, ?_⟩)))
    exact wpAny_pure (q _ (Heap.get?_update_self _ (Heap.get?_update_self _ hit rfl) rfl) ((Heap.SameBut.update ..).trans (Heap.SameBut.update ..)))
theorem end_any {bb : Bool} {it : Addr} {x left step : Int} {Q : Option Value → Shared → Prop} (calm : A.handled = none) (hit : IsRI bb s.heap it x left step) (none_ : left ≤ 0)
    (q : ∀ h', Heap.ExtBut it s.heap h' → Q none { s with heap := h' }) : wpAny (model prog w) A (pyNext (.ref it)) Q E s := by
  cases bb with
  | true => exact wpAny_pyNext_range_end calm hit none_ q
  | false =>
    have ty : s.TypeIs (.ref it) "longrange_iterator" := ⟨_, hit, rfl⟩
    unfold pyNext
    refine wpAny_bind (wpAny_attempt (wpAny_callSpecial?_slot (name := Str.ofString "__next__") ty slot_l_next (wpAny_call_entry slot_l_next ty entry_l_next ?_ (args_l_next _))))
    have f0 : s.heap.get? it = some { cls := .type "longrange_iterator", dict := none, data := .fields #[rawInt x, rawInt left, rawInt step], slots := #[] } := hit
    unfold Builtin.«longrange_iterator.__next__»
    obtain ⟨hp, g, d, tk, os⟩ := s
    wp_walk
    simp only [raiseNew]
    refine wpAny_bind (wpAny_handled ?_)
    first | rw [show A.in1.handled = none from calm] | rw [calm]
    refine wpAny_bind (wpAny_pure (wpAny_throw ?_))
    refine wpAny_bind (wpAny_isInstance (T := "StopIteration") (b := true) ⟨_, Heap.get?_push_size _ rfl, rfl⟩ isSubtype_stop ?_)
    exact wpAny_pure (q _ (((Heap.ExtBut.refl it hp).push _).push _))
theorem self_any {bb : Bool} {it : Addr} {x left step : Int} {Q : Value → Shared → Prop} (hit : IsRI bb s.heap it x left step) (h : Q (.ref it) s) : wpAny (model prog w) A (pyIter (.ref it)) Q E s := by
  cases bb with
  | true => exact wpAny_pyIter_rangeiter hit h
  | false =>
    have ty : s.TypeIs (.ref it) "longrange_iterator" := ⟨_, hit, rfl⟩
    refine wpAny_pyIter_slot ty slot_l_iter (wpAny_call_entry slot_l_iter ty entry_l_iter ?_ (args_l_iter _))
    show wpAny _ _ (ret (.ref it)) _ _ s
    exact wpAny_pure ⟨_, rfl, "longrange_iterator", _, ty, slot_l_next.lookup, h⟩
end
theorem walks_any {prog : Program} {w : World} {A : Around} (calm : A.handled = none) (bb : Bool) (I : Addr) (a c : Int) (n : Nat) :
    Walks prog w A I [I] [I] n (fun i v => ∃ t, v = .int (a + i * c) t) (fun i h => IsRI bb h I (a + (i : Nat) * c) ((n : Int) - (i : Nat)) c) where
  sub := fun _ hb => hb
  frame := fun _ _ _ st hk => hk I (by simp) _ st
  item := fun i s Q E hi st q => by
    refine item_any st (by omega) fun h1 it1 sb => ?_
    refine q _ h1 _ ⟨_, rfl⟩ ?_ fun b o hb e => sb.extBut b o (fun h => hb (by simp [h])) e
    have e1 : a + ((i + 1 : Nat) : Int) * c = a + (i : Int) * c + c := by
      rw [Int.natCast_add, Int.add_mul, Int.add_assoc]
      simp
    have e2 : (n : Int) - ((i + 1 : Nat) : Int) = (n : Int) - (i : Int) - 1 := by omega
    rw [e1, e2]
    exact it1
  done := fun s Q E st q => end_any calm st (by omega) fun h1 ex => q h1 s.toks fun b o hb e => ex b o (fun h => hb (by simp [h])) e
  self := fun _ _ _ _ st q => self_any st q
section
variable {prog : Program} {w : World} {A : Around} {E : Value → Shared → Prop} {s : Shared}
theorem extend_any {R : Result → Shared → Prop} {r : Addr} {a b c : Int} {t u v : Tok} {n : Nat} (calm : A.handled = none) (hr : IsRange s.heap r a b c t u v)
    (hn : rangeSize a b c = n) (few : n ≤ 2 ^ 24) (S : Addr) (res : Value) (c₀ : Nat) (at0 : s.heap.get? S = some { cls := .type "list", data := .seq #[] c₀ })
    (fin : ∀ h1 tk acc c1, (∀ b o, b ≠ S → s.heap.get? b = some o → h1.get? b = some o) → h1.get? S = some { cls := .type "list", dict := none, data := .seq acc c1, slots := #[] } → ItemsOf (fun i v => ∃ t, v = .int (a + i * c) t) acc n → R (.ok (.ret res)) { s with heap := h1, toks := tk }) :
    wpAny (model prog w) A.in1 (Builtin.List.listExtendWith (.ref S) (.ref r) res) (fun fin s' => match fin with | .done f => R (.ok f) s' | .again c' => c'.quiet = true ∧ codeAny (model prog w) A c' R s') (fun e s' => R (.error e) s') s := by
  have ne1 : S ≠ r := fun e => by rw [e, hr] at at0; simp at at0
  have lt1 : S < s.heap.objs.size := Heap.lt_size at0
  have ne2 : S ≠ s.heap.objs.size := Nat.ne_of_lt lt1
  have nf : S ∉ [s.heap.objs.size] := fun hm => ne2 (List.mem_singleton.mp hm)
  have W := (walks_any (prog := prog) (w := w) (A := A.in1) calm (small a b c) s.heap.objs.size a c n).toS
  have key : ∀ (h : Heap) (c₁ tk : Nat), IsRI (small a b c) h s.heap.objs.size (a + ((0 : Nat) : Int) * c) ((n : Int) - ((0 : Nat) : Int)) c → (∀ b o, b ≠ S → s.heap.get? b = some o → h.get? b = some o) →
      h.get? S = some { cls := .type "list", data := .seq #[] c₁ } → codeAny (model prog w) A (.builtin "list.extend.loop" ⟨[.ref S, .ref s.heap.objs.size, res], []⟩) R { s with heap := h, toks := tk } := by
    intro h c₁ tk hit hk at1
    refine codeAny_extend_loopS W (by rw [sizeLine_eq]; omega) S nf res n 0 _ #[] c₁ rfl (Nat.zero_le _) hit at1 (ItemsOf.nil _) fun z acc c1 hm at2 items => ?_
    rw [Moved.eq_with hm]
    refine fin z.heap z.toks acc c1 (fun b o hb e => hm.heap b o (fun hmem => ?_) (hk b o hb e)) at2 items
    rcases List.mem_cons.mp hmem with e' | hmem
    · exact hb e'
    · have lt := Heap.lt_size e
      rw [List.mem_singleton.mp hmem] at lt
      exact Nat.lt_irrefl _ lt
  unfold Builtin.List.listExtendWith
  refine wpAny_bind (wpAny_typeOf (T := "range") ⟨_, hr, rfl⟩ ?_)
  have k1 : Builtin.List.listSameRef (.ref S) (.ref r) = false := by simp [Builtin.List.listSameRef, ne1]
  have k2 : (Value.type "range" == Value.type "list") = false := by decide
  have k3 : (Value.type "range" == Value.type "tuple") = false := by decide
  simp only [k1, k2, k3, Bool.or_false, Bool.false_eq_true, if_false]
  refine wpAny_bind (iter_any hr ?_)
  refine wpAny_bind (wpAny_holding (wpAny_hint_range (n := n) (Heap.get?_push_of_some _ hr) hn few ?_))
  have it1 : IsRI (small a b c) (s.heap.push { cls := .type (rin (small a b c)), data := .fields #[rawInt a, rawInt (rangeSize a b c), rawInt c] }) s.heap.objs.size (a + ((0 : Nat) : Int) * c) ((n : Int) - ((0 : Nat) : Int)) c := by
    rw [hn]
    have e := Heap.get?_push_size s.heap (o := { cls := .type (rin (small a b c)), data := .fields #[rawInt a, rawInt (n : Int), rawInt c] }) rfl
    unfold IsRI
    simpa using e
  have at1 := Heap.get?_push_of_some { cls := .type (rin (small a b c)), data := .fields #[rawInt a, rawInt (rangeSize a b c), rawInt c] } at0
  refine wpAny_ite_split (fun _ => ?_) (fun _ => wpAny_pure ⟨plainId_quiet F.plain_extend_loop _, key _ c₀ _ it1 (fun b o _ e => Heap.get?_push_of_some _ e) at1⟩)
  refine wpAny_bind (wpAny_rule ?_)
  refine wpAny_bind ?_
  show wpAny _ _ (updateSeq S (·.push .none) >>= fun _ => updateSeq S (·.pop)) _ _ _
  refine wpAny_bind (wpAny_updateSeq at1 rfl ?_)
  have at2 := Heap.get?_update_self (Obj.mapSeq (·.push Value.none)) at1 rfl
  refine wpAny_updateSeq (hz := by seq_fits) at2 rfl ?_
  have at3 := Heap.get?_update_self (Obj.mapSeq (·.pop)) at2 rfl
  refine wpAny_pure ⟨plainId_quiet F.plain_extend_loop _, key _ _ _ ?_ (fun b o hb e => ?_) at3⟩
  · exact (Heap.get?_update_other _ _ ne2).trans ((Heap.get?_update_other _ _ ne2).trans it1)
  · exact (Heap.get?_update_other _ _ (Ne.symm hb)).trans ((Heap.get?_update_other _ _ (Ne.symm hb)).trans (Heap.get?_push_of_some _ e))
theorem init_any {R : Result → Shared → Prop} {r : Addr} {a b c : Int} {t u v : Tok} {n : Nat} (calm : A.handled = none) (hr : IsRange s.heap r a b c t u v)
    (hn : rangeSize a b c = n) (few : n ≤ 2 ^ 24) (S : Addr) (at0 : s.heap.get? S = some { cls := .type "list", data := .seq #[] })
    (fin : ∀ h1 tk acc c1, (∀ b o, b ≠ S → s.heap.get? b = some o → h1.get? b = some o) → h1.get? S = some { cls := .type "list", dict := none, data := .seq acc c1, slots := #[] } → ItemsOf (fun i v => ∃ t, v = .int (a + i * c) t) acc n → R (.ok (.ret .none)) { s with heap := h1, toks := tk }) :
    wpAny (model prog w) A.in1 (Builtin.«list.__init__» ⟨[.ref S, .ref r], []⟩) (fun fin s' => match fin with | .done f => R (.ok f) s' | .again c' => c'.quiet = true ∧ codeAny (model prog w) A c' R s') (fun e s' => R (.error e) s') s := by
  have ne1 : S ≠ r := fun e => by rw [e, hr] at at0; simp at at0
  show wpAny _ _ (do let old ← Builtin.List.listItems (.ref S); Builtin.List.listUpdate (.ref S) (fun _ => #[]); letGo old.toList.reverse; Builtin.List.listExtendWith (.ref S) (.ref r) .none) _ _ s
  refine wpAny_bind ?_
  unfold Builtin.List.listItems
  refine wpAny_bind (wpAny_seqItems at0 rfl (wpAny_pure ?_))
  show wpAny _ _ (updateSeq S (fun _ => #[]) >>= fun _ => letGo (#[] : Array Value).toList.reverse >>= fun _ => Builtin.List.listExtendWith (.ref S) (.ref r) .none) _ _ s
  refine wpAny_bind (wpAny_updateSeq at0 rfl ?_)
  have at1 := Heap.get?_update_self (Obj.mapSeq (fun _ => (#[] : Array Value))) at0 rfl
  have oth : ∀ b o, b ≠ S → s.heap.get? b = some o → (s.heap.update S (Obj.mapSeq (fun _ => (#[] : Array Value)))).get? b = some o := fun b o hb e => (Heap.get?_update_other _ _ (Ne.symm hb)).trans e
  refine wpAny_bind (wpAny_letGo ?_)
  refine extend_any calm (oth r _ (Ne.symm ne1) hr) hn few S .none _ at1 fun h1 tk acc c1 hk at2 items => ?_
  exact fin h1 tk acc c1 (fun b o hb e => hk b o hb (oth b o hb e)) at2 items
theorem list_any {Q : Value → Shared → Prop} {r : Addr} {a b c : Int} {t u v : Tok} {n : Nat} (calm : A.handled = none) (hr : IsRange s.heap r a b c t u v) (hn : rangeSize a b c = n) (few : n ≤ 2 ^ 24)
    (fin : ∀ h1 tk acc c1, (∀ b o, s.heap.get? b = some o → h1.get? b = some o) → h1.get? s.heap.objs.size = some { cls := .type "list", dict := none, data := .seq acc c1, slots := #[] } → ItemsOf (fun i v => ∃ t, v = .int (a + i * c) t) acc n → Q (.ref s.heap.objs.size) { s with heap := h1, toks := tk }) :
    wpAny (model prog w) A (call (.type "list") [.ref r]) Q E s := by
  refine callType_codes (Q₁ := fun obj z => obj = .ref s.heap.objs.size ∧ z = { s with heap := s.heap.push { cls := .type "list", data := .seq #[] } }) F.called_list (F.typeCall_list_1 _) F.entry_list_init (code_list_new _ ⟨rfl, rfl⟩) fun obj z h₁ => ?_
  obtain ⟨rfl, rfl⟩ := h₁
  have at0 : (s.heap.push { cls := .type "list", data := .seq #[] }).get? s.heap.objs.size = some { cls := .type "list", data := .seq #[] } := Heap.get?_push_size _ rfl
  refine ⟨⟨_, at0, rfl⟩, F.args_list_init_2 _ _, init_any (A := A.in1) calm (Heap.get?_push_of_some _ hr) hn few _ at0 fun h1 tk acc c1 hk at1 items => ?_⟩
  exact ⟨rfl, fin h1 tk acc c1 (fun b o e => hk b o (Nat.ne_of_lt (Heap.lt_size e)) (Heap.get?_push_of_some _ e)) at1 items⟩
end
end LR
namespace L3
open PySem PySem.Spec PyProof.Rows L2
theorem turn_rangeB {P : Program} {w : World} {K : PySem.W.Frag} {tg : Expr} (bb : Bool) (it : Addr) (lo : Int) (n : Nat) : L2.Turn P w K tg (Itr lo n) [it] it (fun i h => LR.IsRI bb h it (lo + (i : Nat) * 1) ((n : Int) - (i : Nat)) 1) where
  mem := by simp
  obj := fun i h st b hb => by
    obtain rfl : b = it := by simpa using hb
    exact ⟨_, st, fun v z => nomatch (show Data.fields _ = Data.cell v from z)⟩
  keep := fun i h h' st k => k it (by simp) _ st
  item := by
    intro X hP hw hK hc i pins s σ H E I hf st hg
    subst hP hw hK
    obtain ⟨f0, f1, f2, f3, f4, f5⟩ := hf it (by simp)
    refine (LR.walks_any (prog := X.prog) (w := X.w) (I.ok.hd hc) bb it lo 1 n).item i s _ _ hg st fun v h1 tk hv st1 kk => ?_
    obtain ⟨t, rfl⟩ := hv
    have J : Inv X pins σ H { s with heap := h1, toks := tk } := I.turned (fun b o hb e => kk b o (by simpa using hb) e) f0 f1 f3 f4 f5
    refine ⟨_, rfl, go_of (s := { s with heap := h1, toks := tk }) (n := LR.rin bb) st1 rfl rfl (by cases bb <;> decide) ⟨.int (lo + i), H, J, ⟨t, ?_⟩, ⟨rfl, rfl⟩, st1, fun b hb => (hf b hb).1⟩⟩
    rw [Int.mul_one]
  done := by
    intro X hP hw hK hc i pins s σ H E I hf st hg
    subst hP hw hK
    obtain ⟨f0, f1, f2, f3, f4, f5⟩ := hf it (by simp)
    exact LR.end_any (I.ok.hd hc) st (by have : n ≤ i := hg; omega) fun h1 eb => ⟨rfl, I.turned (t' := s.toks) (fun b o hb e => eb b o hb e) f0 f1 f3 f4 f5⟩
  self := fun _ _ _ _ _ st h => LR.self_any st h
section
variable {X : Cx} {tg : Expr}
theorem range_itB {pins : List (Addr × Obj)} {σ : L2.St} {H : Hp} {s : Shared} {R : It → Hp → Prop} {E : Value → Shared → Prop} {lo hi : Int} {t u v : Tok} {tk : Nat} (I : Inv X pins σ H s) (q : R (Itr lo (hi - lo).toNat) H) :
    wpAny (model X.prog X.w) X.A (pyIter (.ref s.heap.objs.size)) (PIE X pins σ tg R) E { s with heap := s.heap.push { cls := .type "range", data := .fields #[.int lo t, .int hi u, .int 1 v] }, toks := tk } := by
  refine LR.iter_any (IsRange.new ..) ?_
  have J : Inv X pins σ H { s with heap := s.heap.push { cls := .type "range", data := .fields #[.int lo t, .int hi u, .int 1 v] }, toks := tk } := I.kept fun b o e => Heap.get?_push_of_some _ e
  refine ⟨_, [_], _, _, H, rfl, J.kept (t' := tk) fun b o e => Heap.get?_push_of_some _ e, turn_rangeB (Builtin.Range.small lo hi 1) _ lo (hi - lo).toNat, ?_, fun b hb => ?_, q⟩
  · have e1 : lo + ((0 : Nat) : Int) * 1 = lo := by simp
    have e2 : (((hi - lo).toNat : Nat) : Int) - ((0 : Nat) : Int) = Builtin.Range.rangeSize lo hi 1 := by rw [rangeSize_one]; split <;> omega
    show LR.IsRI _ _ _ (lo + ((0 : Nat) : Int) * 1) ((((hi - lo).toNat : Nat) : Int) - ((0 : Nat) : Int)) 1
    rw [e1, e2]
    exact Heap.get?_push_size _ rfl
  · obtain rfl := List.mem_singleton.mp hb
    exact J.fpOk (Nat.le_refl _) (J.hok.fresh (Nat.le_refl _))
/-- range(a, b), walked, whatever their size -/
def iRngB (ta : TA) : TI := fun σ H R => ta σ H fun vs H1 => ∃ i j : Int, vs = [.int i, .int j] ∧ R (Itr i (j - i).toNat) H1
theorem pi_rangeB {a b : Expr} {ta : TA} {p pos : Pos} (hg : Gl X "range") (hm : X.mg "range" = none) (ha : PA X [a, b] ta) (hs : starEach [a, b] X.env = [(false, eval a X.env), (false, eval b X.env)] := by rfl) (hs2 : starEach [b] X.env = [(false, eval b X.env)] := by rfl) :
    PI X tg (.Call (.Name "range" p) [a, b] [] pos) (iRngB ta) := by
  refine ⟨fun pins s σ H R I h => ?_⟩
  refine Call_ (ld_blt I hg hm boot_range (callWith_type1 (thn (ha.run pos pins s σ H _ I h) fun us s1 ⟨vs, H1, I1, r1, q1⟩ => ?_) (by rw [hs, hs2]) (by rw [hs2]; rfl)))
  obtain ⟨i, j, e, q⟩ := q1
  subst e
  obtain ⟨u1, u2, rfl, ⟨t, rfl⟩, ⟨t', rfl⟩⟩ := vals2 r1
  exact call_range_2 (range_itB I1 q)
/-- list(range(..)) -/
def tLstRB (te : L2.St → Hp → (Int → Int → Hp → Prop) → Prop) : TE := fun σ H Q => te σ H fun a b H1 => (b - a).toNat ≤ 2 ^ 24 ∧ ∀ q, H1 q = none → Q (.ref q) (upd H1 q (.lst (rgV a b)))
theorem pe_listRB {e : Expr} {te : L2.St → Hp → (Int → Int → Hp → Prop) → Prop} {p pos : Pos} (hc : X.calm = true) (hg : Gl X "list") (hm : X.mg "list" = none) (he : PRg X e te) (na : starEach [e] X.env = (false, eval e X.env) :: starEach [] X.env := by rfl) : PE X (.Call (.Name "list" p) [e] [] pos) (tLstRB te) := by
  refine ⟨fun pins s σ H Q I h => ?_⟩
  refine Call_ (ld_blt I hg hm boot_list (callWith_type1 (args_cons (thn (he pins s σ H _ I h) fun x s1 ⟨r, a, b, t, u, v, H1, ex, hr, I1, few, q⟩ => args_nil ?_) na) na))
  subst ex
  refine LR.list_any (n := (b - a).toNat) (I1.ok.hd hc) hr (rangeSize_nat a b) few fun h1 tk acc c1 hk e' hi => ?_
  refine ⟨.ref s1.heap.objs.size, upd H1 s1.heap.objs.size (.lst (rgV a b)), I1.laid hk (Nat.le_refl _) (show ObjOk X.prog X.w _ _ _ (.lst (rgV a b)) from ⟨?_, acc.toList, c1, vals_rg hi, ?_⟩), rfl, q _ (I1.hok.fresh (Nat.le_refl _))⟩
  · rw [rgV_length, sizeLine_eq]
    omega
  · rw [Array.toArray_toList]
    exact e'
end
end L3
set_option Elab.async false
set_option linter.all false
set_option maxRecDepth 100000
set_option maxHeartbeats 4000000
namespace L3
open PySem PySem.Spec PyProof.Rows L2
theorem range_fm {α β : Type} (g : α → Option β) : ∀ l : List α, (List.range l.length).filterMap (fun i => l[i]?.bind g) = l.filterMap g
  | [] => rfl
  | x :: l => by
    rw [List.length_cons, List.range_succ_eq_map, List.filterMap_cons, List.filterMap_map, List.filterMap_cons]
    have ih := range_fm g l
    have e : ((fun i => (x :: l)[i]?.bind g) ∘ Nat.succ) = fun i => l[i]?.bind g := funext fun i => by simp
    rw [e, ih]
    simp
section
variable {J : It} {G : Hp → Prop} {g : TG} {tt : TT} {te : TE} {vs : List Nat} {σ : L2.St} {H1 : Hp} {D : Addr} {Qd : Hp → Prop}
/-- a comprehension over xs (told as values by v), each of which gives gm x, or nothing -/
theorem lc_on {α : Type} (xs : List α) (v : α → V) (w : L2.Walk J (xs.map v).length G (L2.YAt (xs.map v))) (gm : α → Option V) (I : Hp → Prop) (hI : ∀ H l, I H → I (upd H D (.lst l))) (i0 : I H1) (hn : xs.length ≤ 100000) (hG : ∀ H, I H → G H)
    (hs : ∀ (i : Nat) (x : α) (H : Hp) (acc : List V) (N : Hp → Prop), xs[i]? = some x → I H → H D = some (.lst acc) → acc.length < sizeLine →
      (∀ H4, I H4 → H4 D = some (.lst acc) → match gm x with | some y => N (upd H4 D (.lst (acc ++ [y]))) | none => N H4) → Turn g tt te vs σ D (v x) H N)
    (hd : ∀ H, I H → H D = some (.lst (xs.filterMap gm)) → Qd H) :
    ∃ W : Nat → Nat → Hp → Prop, (∃ m, W 0 m (upd H1 D (.lst []))) ∧ ∀ i m H, W i m H →
      (J.stop i H ∧ Qd H) ∨ (J.go i H ∧ ∃ Nx : Hp → Prop, (∀ H', Nx H' → ∃ m', m' < m ∧ W (i + 1) m' H') ∧ ∀ x H', J.yld i H x H' → Turn g tt te vs σ D x H' Nx) := by
  refine lc_fm w (fun i => xs[i]?.bind gm) I hI i0 (by rw [List.length_map]; exact hn) hG (fun i x H H' acc N hi p hD la y k => ?_) fun H p hD => hd H p ?_
  · obtain ⟨rfl, hx⟩ := y
    rw [List.getElem?_map] at hx
    obtain ⟨z, hz, rfl⟩ := Option.map_eq_some_iff.mp hx
    refine hs i z _ acc N hz p hD la fun H4 p4 d4 => ?_
    have := k H4 p4 d4
    simp only [hz, Option.bind_some] at this
    exact this
  · rw [hD, List.length_map, range_fm]
/-- a comprehension over a range -/
theorem lc_rg {lo : Int} {n : Nat} (gm : Nat → Option V) (I : Hp → Prop) (hI : ∀ H l, I H → I (upd H D (.lst l))) (i0 : I H1) (hn : n ≤ 100000)
    (hs : ∀ (i : Nat) (H : Hp) (acc : List V) (N : Hp → Prop), i < n → I H → H D = some (.lst acc) → acc.length < sizeLine →
      (∀ H4, I H4 → H4 D = some (.lst acc) → match gm i with | some y => N (upd H4 D (.lst (acc ++ [y]))) | none => N H4) → Turn g tt te vs σ D (.int (lo + i)) H N)
    (hd : ∀ H, I H → H D = some (.lst ((List.range n).filterMap gm)) → Qd H) :
    ∃ W : Nat → Nat → Hp → Prop, (∃ m, W 0 m (upd H1 D (.lst []))) ∧ ∀ i m H, W i m H →
      ((Itr lo n).stop i H ∧ Qd H) ∨ ((Itr lo n).go i H ∧ ∃ Nx : Hp → Prop, (∀ H', Nx H' → ∃ m', m' < m ∧ W (i + 1) m' H') ∧ ∀ x H', (Itr lo n).yld i H x H' → Turn g tt te vs σ D x H' Nx) := by
  refine lc_fm (L2.walk_range (lo := lo) (n := n)) gm I hI i0 hn (fun _ _ => trivial) (fun i x H H' acc N hi p hD la y k => ?_) hd
  obtain ⟨rfl, rfl⟩ := y
  exact hs i _ acc N hi p hD la k
end
section
variable {J : It} {G : Hp → Prop} {g : TG} {tb : TS} {D : Ends} {σ : L2.St} {H : Hp}
/-- a for over xs (told as values by v) -/
theorem for_on {α : Type} (xs : List α) (v : α → V) (w : L2.Walk J (xs.map v).length G (L2.YAt (xs.map v))) (Pv : Nat → L2.St → Hp → Prop) (h0 : Pv 0 σ H) (hG : ∀ i σ H, Pv i σ H → G H)
    (hs : ∀ (i : Nat) (x : α) (σ : L2.St) (H : Hp), xs[i]? = some x → Pv i σ H → g (v x) σ H fun σ2 H2 => tb { D with nx := Pv (i + 1), ct := Pv (i + 1), bk := D.nx } σ2 H2) (hd : ∀ σ H, Pv xs.length σ H → D.nx σ H) :
    ∃ W : Nat → Nat → L2.St → Hp → Prop, (∃ m, W 0 m σ H) ∧ ∀ i m σ H, W i m σ H →
      (J.stop i H ∧ D.nx σ H) ∨ (J.go i H ∧ ∃ N : L2.St → Hp → Prop, (∀ σ' H', N σ' H' → ∃ m', m' < m ∧ W (i + 1) m' σ' H') ∧ ∀ x H', J.yld i H x H' → g x σ H' fun σ2 H2 => tb { D with nx := N, ct := N, bk := D.nx } σ2 H2) := by
  refine L2.for_it w Pv h0 (fun i σ H _ p => hG i σ H p) (fun i x σ H H' hi p y => ?_) (fun σ H p => hd σ H (by rw [List.length_map] at p; exact p))
  obtain ⟨rfl, hx⟩ := y
  rw [List.getElem?_map] at hx
  obtain ⟨z, hz, rfl⟩ := Option.map_eq_some_iff.mp hx
  exact hs i z σ _ hz p
end
theorem take_snoc {α : Type} {l : List α} {i : Nat} {x : α} (h : l[i]? = some x) : l.take (i + 1) = l.take i ++ [x] := by
  rw [List.take_add_one, h]
  rfl
theorem catA_of {K : PySem.W.Frag} {H : Hp} {a b : Addr} {xs ys : List V} {Q : VK} (ha : SqT K H a xs) (hb : SqT K H b ys) (hz : xs.length + ys.length ≤ sizeLine) (q : ∀ p H', Ex H H' → SqT K H' p (xs ++ ys) → Q (.ref p) H') : rCatA K (.ref a) (.ref b) H Q := by
  refine ⟨a, b, xs, ys, rfl, rfl, ha, hb, hz, fun e => ?_, fun _ e => ?_, fun _ _ p np => ?_⟩
  · exact q b H (.refl _) (by rw [e]; exact hb)
  · exact q a H (.refl _) (by rw [e, List.append_nil]; exact ha)
  · exact q p _ (ex_new np) (sq_tup upd_same)
/-- what stands elsewhere than at f stays -/
def Oth (f : Addr) (H H' : Hp) : Prop := ∀ b o, b ≠ f → H b = some o → H' b = some o
theorem Oth.refl (f : Addr) (H : Hp) : Oth f H H := fun _ _ _ e => e
theorem Oth.trans {f : Addr} {H H1 H2 : Hp} (a : Oth f H H1) (b : Oth f H1 H2) : Oth f H H2 := fun c o h e => b c o h (a c o h e)
theorem ex_oth {f : Addr} {H H1 : Hp} (a : Ex H H1) : Oth f H H1 := fun c o _ e => a c o e
theorem Oth.upd {f : Addr} {H H1 : Hp} {o : HO} (a : Oth f H H1) : Oth f H (L2.upd H1 f o) := fun b u nb e => by rw [upd_ne nb]; exact a b u nb e
theorem Oth.ex {f : Addr} {H0 H H1 : Hp} (x : Ex H0 H) (n : H0 f = none) (a : Oth f H H1) : Ex H0 H1 := fun b o e => a b o (ne_of_none e n) (x b o e)
/-! ### repr of any data -/
@[irreducible] def rReprX (K : PySem.W.Frag) : List V → Hp → VK → Prop := fun xs H Q => ∃ (x : V) (d : PyData), xs = [x] ∧ Dp K H x d ∧ d.hasDict = false ∧ d.showable = true ∧ d.depth ≤ 60 ∧ d.shown.length ≤ sizeLine ∧ Q (.str d.shown) H
theorem call_reprX {X : Cx} {k : Nat} (K : PySem.W.Frag) (hr : Rm k X.A) (hK : X.K = K := by rfl) : CallR X (.builtin "repr") (rReprX K) := by
  subst hK
  intro pins s σ H xs us Q I r h
  unfold rReprX at h
  obtain ⟨x, d, rfl, hd, hnd, hs, hdp, hsz, q⟩ := h
  have main : ∀ a, x = .ref a → wpAny (model X.prog X.w) X.A (call (.builtin "repr") us) (EP X pins σ Q) X.xe s := fun a ea => by
    subst ea
    refine call_repr hr pins s σ H [.ref a] us Q I r ?_
    unfold rRepr
    exact ⟨a, d, rfl, hd, hnd, hs, hdp, hsz, q⟩
  cases hd with
  | non =>
    obtain ⟨u, rfl, e⟩ := vals1 r
    obtain rfl : u = Value.none := e
    exact PySem.P.repr_of_none ⟨.str _, H, I.tok _, ⟨_, rfl⟩, q⟩
  | bl b =>
    obtain ⟨u, rfl, e⟩ := vals1 r
    obtain rfl : u = Value.bool b := e
    exact PySem.P.repr_of_bool ⟨.str _, H, I.tok _, ⟨_, rfl⟩, q⟩
  | int i =>
    obtain ⟨u, rfl, t, rfl⟩ := vals1 r
    exact PySem.P.repr_of_int (of_decide_eq_true hs) ⟨.str _, H, I.tok _, ⟨_, rfl⟩, q⟩
  | str z =>
    obtain ⟨u, rfl, t, rfl⟩ := vals1 r
    exact PySem.P.repr_of_str ⟨.str _, H, I.tok _, ⟨_, rfl⟩, q⟩ hsz
  | lst _ _ => exact main _ rfl
  | tup _ _ => exact main _ rfl
theorem rx_data {K : PySem.W.Frag} {H : Hp} {x : V} {d : PyData} {Q : VK} (h : Dp K H x d) (ho : okD d = true) (hz : szD d ≤ 16000000) (hd : d.depth ≤ 60) (q : Q (.str d.shown) H) : rReprX K [x] H Q := by
  obtain ⟨h1, h2, h3⟩ := okD_tells d ho
  unfold rReprX
  exact ⟨x, d, rfl, h, h1, h2, hd, Nat.le_trans h3 (Nat.le_trans hz (by rw [sizeLine_eq]; decide)), q⟩
theorem sz_le {n : Nat} (h : n ≤ 100000) : n ≤ sizeLine := Nat.le_of_lt (small_len h)
end L3
set_option Elab.async false
set_option linter.all false
set_option maxRecDepth 100000
set_option maxHeartbeats 4000000
namespace L3
open PySem PySem.Spec PyProof.Rows L2
theorem slA_of {K : PySem.W.Frag} {H : Hp} {a : Addr} {xs : List V} {lo hi : Option Int} {Q : VK} (ha : SqT K H a xs) (q : ∀ p H', Ex H H' → SqT K H' p (cutV xs lo hi) → Q (.ref p) H') : rSlA K (.ref a) lo hi H Q := by
  refine ⟨a, xs, rfl, ha, fun hw => q a H (.refl _) ?_, fun _ p np => q p _ (ex_new np) (sq_tup upd_same)⟩
  have e : cutV xs lo hi = xs := by
    unfold cutV
    rw [hw.1, hw.2]
    simp
  rw [e]
  exact ha
theorem tyOf_mono {K : PySem.W.Frag} {H H' : Hp} {x : V} {t : Value} (e : Ex H H') (h : TyOf K H x t) : TyOf K H' x t := by
  cases h with
  | non => exact .non
  | bl x => exact .bl x
  | int i => exact .int i
  | str x => exact .str x
  | flt x => exact .flt x
  | lst h => exact .lst (e _ _ h)
  | frz h => exact .frz (e _ _ h)
  | tup h => exact .tup (e _ _ h)
  | dK h => exact .dK (e _ _ h)
  | dT h => exact .dT (e _ _ h)
  | ins h cl ha hn htk hm => exact .ins (e _ _ h) cl ha hn htk hm
theorem tyX_mono {K : PySem.W.Frag} {H H' : Hp} {x : V} {t : Value} (e : Ex H H') (h : TyX K H x t) : TyX K H' x t := by
  cases h with
  | base h => exact .base (tyOf_mono e h)
  | byt b => exact .byt b
  | set h => exact .set (e _ _ h)
  | kList h c => exact .kList h c
  | kTuple h c => exact .kTuple h c
  | kDict h c => exact .kDict h c
  | fTuple h => exact .fTuple (e _ _ h)
  | fDict h => exact .fDict (e _ _ h)
theorem Cl.mono {K : PySem.W.Frag} {H H' : Hp} {x : V} (c : Cl K H x) (e : Ex H H') : Cl K H' x := let ⟨t, b, d, h1, h2⟩ := c; ⟨t, b, d, tyX_mono e h1, h2⟩
section
variable {J : It} {n : Nat} {G : Hp → Prop} {g : TG} {tt : TT} {te : TE} {vs : List Nat} {σ : L2.St} {H1 : Hp} {D : Addr} {Qd : Hp → Prop}
/-- a comprehension over pairs of xs and ys -/
theorem lc_zip {α β : Type} (xs : List α) (ys : List β) (v : α → V) (w : β → V) (wk : L2.Walk J n G (L2.YPair (fun i => (xs.map v)[i]?) (fun i => (ys.map w)[i]?))) (hn : n = min xs.length ys.length) (gm : α → β → Option V) (I : Hp → Prop) (hI : ∀ H l, I H → I (upd H D (.lst l))) (i0 : I H1) (hz : xs.length ≤ 100000) (hG : ∀ H, I H → G H)
    (hs : ∀ (i : Nat) (a : α) (b : β) (u : Addr) (H : Hp) (acc : List V) (N : Hp → Prop), xs[i]? = some a → ys[i]? = some b → I H → H u = none → H D = some (.lst acc) → acc.length < sizeLine →
      (∀ H4, I H4 → H4 D = some (.lst acc) → match gm a b with | some y => N (upd H4 D (.lst (acc ++ [y]))) | none => N H4) → Turn g tt te vs σ D (.ref u) (upd H u (.tup [v a, w b])) N)
    (hd : ∀ H, I H → H D = some (.lst ((xs.zip ys).filterMap fun p => gm p.1 p.2)) → Qd H) :
    ∃ W : Nat → Nat → Hp → Prop, (∃ m, W 0 m (upd H1 D (.lst []))) ∧ ∀ i m H, W i m H →
      (J.stop i H ∧ Qd H) ∨ (J.go i H ∧ ∃ Nx : Hp → Prop, (∀ H', Nx H' → ∃ m', m' < m ∧ W (i + 1) m' H') ∧ ∀ x H', J.yld i H x H' → Turn g tt te vs σ D x H' Nx) := by
  refine lc_fm wk (fun i => (xs.zip ys)[i]?.bind fun p => gm p.1 p.2) I hI i0 (by omega) hG (fun i x H H' acc N hi p hD la y k => ?_) fun H p hD => hd H p ?_
  · obtain ⟨u, x1, x2, rfl, nu, rfl, g1, g2⟩ := y
    dsimp only at g1 g2
    rw [List.getElem?_map] at g1 g2
    obtain ⟨a, ha, rfl⟩ := Option.map_eq_some_iff.mp g1
    obtain ⟨b, hb, rfl⟩ := Option.map_eq_some_iff.mp g2
    refine hs i a b u H acc N ha hb p nu hD la fun H4 p4 d4 => ?_
    have := k H4 p4 d4
    have ez : (xs.zip ys)[i]? = some (a, b) := by
      rw [List.getElem?_zip_eq_some]
      exact ⟨ha, hb⟩
    simp only [ez, Option.bind_some] at this
    exact this
  · rw [hD, hn, ← List.length_zip, range_fm]
end
end L3
set_option Elab.async false
set_option linter.all false
set_option maxRecDepth 100000
set_option maxHeartbeats 4000000
/-! own ==: both sides, != and in -/
namespace L3
open PySem PySem.Spec PyProof.Rows L2 PySem.SeqAt PySem.Calls
/-- a type, of which the class at C is no base, or which is that class -/
def NoSub (K : PySem.W.Frag) (C : Addr) (t : Value) : Prop := t = .ref C ∨ PySem.W.kitOne K t (.ref C) = some false
/-- the class at C is none of the types that decline -/
structure NoBase (K : PySem.W.Frag) (C : Addr) : Prop where
  non : PySem.W.mroIn K C (.type "NoneType") = some false
  bl : PySem.W.mroIn K C (.type "bool") = some false
  int : PySem.W.mroIn K C (.type "int") = some false
  str : PySem.W.mroIn K C (.type "str") = some false
  lst : PySem.W.mroIn K C (.type "list") = some false
  tup : PySem.W.mroIn K C (.type "tuple") = some false
  dct : PySem.W.mroIn K C (.type "dict") = some false
  ne : PySem.W.findIn K (.ref C) "__ne__" = some (some (.builtin "object.__ne__"))
  ob : PySem.W.mroIn K C (.type "object") = some true
def noBaseF (x : Str) : Fx := fun K => (["NoneType", "bool", "int", "str", "list", "tuple", "dict"].all fun T => decide (PySem.W.mroIn K (He.ga K x) (.type T) = some false)) &&
  (He.eqO (PySem.W.findIn K (.ref (He.ga K x)) "__ne__") (some (some (.builtin "object.__ne__"))) && decide (PySem.W.mroIn K (He.ga K x) (.type "object") = some true))
theorem noBase_of {x : Str} {K : PySem.W.Frag} (h : noBaseF x K = true) : NoBase K (He.ga K x) := by
  obtain ⟨h1, h⟩ := He.ba h
  obtain ⟨h2, h3⟩ := He.ba h
  have g : ∀ T ∈ ["NoneType", "bool", "int", "str", "list", "tuple", "dict"], PySem.W.mroIn K (He.ga K x) (.type T) = some false := fun T hT => of_decide_eq_true (List.all_eq_true.mp h1 T hT)
  exact ⟨g _ (by decide), g _ (by decide), g _ (by decide), g _ (by decide), g _ (by decide), g _ (by decide), g _ (by decide), He.eqO_ok h2, of_decide_eq_true h3⟩
theorem noSub_look {K : PySem.W.Frag} {C : Addr} {t : Value} (h : NoSub K C t) {M : Model} {hp : Heap} (X : K.In hp) (q : (Value.ref C != t) = true) : PySem.W.Looks M hp (isSubtype t (.ref C)) false := by
  rcases h with rfl | h
  · simp at q
  · unfold PySem.W.kitOne at h
    split at h
    · cases h
    · exact (PySem.W.kit_cls X h).2.2
section
variable {prog : Program} {w : World} {A : Around} {E : Value → Shared → Prop} {s : Shared} {K : PySem.W.Frag} {x C f : Addr} {ox : Obj} {od : Option Obj} {b tb : Value}
theorem try_own {Q : Value → Shared → Prop} {n : Str} (X : K.In s.heap) (I : PySem.W.InstAt s.heap x ox C od) (hm : Meth K C n f)
    (h : wpAny (model prog w) A (call (.ref f) [.ref x, b]) (PySem.W.CmpBack Q) E s) : wpAny (model prog w) A (tryCompare (.ref x) n b) (fun r s' => ∃ v, r = some v ∧ Q v s') E s := by
  unfold tryCompare
  refine wpAny_bind (PySem.W.ifBound_K X I hm.at_ hm.fn (wpAny_mono h (fun v s' hv => ?_) fun _ _ e => e))
  cases v <;> first | exact hv.elim | exact wpAny_pure ⟨_, rfl, hv⟩
theorem rc_ownL {Q : Value → Shared → Prop} (hu : A.units < cLine) (X : K.In s.heap) (I : PySem.W.InstAt s.heap x ox C od) (hb : PySem.W.Looks (model prog w) s.heap (typeOf b) tb) (hn : NoSub K C tb) (hm : Meth K C "__eq__" f)
    (h : wpAny (model prog w) A (call (.ref f) [.ref x, b]) (PySem.W.CmpBack Q) E s) : wpAny (model prog w) A (richCompare .Eq (.ref x) b) Q E s := by
  have one := try_own (b := b) X I hm h
  simp only [richCompare, cmpInfo_Eq, oneThing_ref]
  refine wpAny_holding (wpAny_bind (wpAny_cRoomFor hu ?_))
  refine wpAny_bind (I.type.here (wpAny_bind (hb.here ?_)))
  split
  · rename_i q
    refine wpAny_bind ((noSub_look hn X q).here ?_)
    simp only [Bool.false_eq_true, if_false]
    refine wpAny_bind (wpAny_mono one (fun r s' z => ?_) fun _ _ e => e)
    obtain ⟨v, rfl, hq⟩ := z
    exact wpAny_pure hq
  · refine wpAny_bind (wpAny_pure ?_)
    simp only [Bool.false_eq_true, if_false]
    refine wpAny_bind (wpAny_mono one (fun r s' z => ?_) fun _ _ e => e)
    obtain ⟨v, rfl, hq⟩ := z
    exact wpAny_pure hq
/-- a value that declines: then the right one's own == -/
theorem rc_ownR {Q : Value → Shared → Prop} {T : String} (hu : A.units < cLine) (X : K.In s.heap) (I : PySem.W.InstAt s.heap x ox C od) (hb : s.TypeIs b T) (ho : oneThing? .Eq b (.ref x) = none) (hn : PySem.W.mroIn K C (.type T) = some false) (hm : Meth K C "__eq__" f)
    (hd : ∀ Q' : Option Value → Shared → Prop, Q' none s → wpAny (model prog w) A (tryCompare b "__eq__" (.ref x)) Q' E s)
    (h : wpAny (model prog w) A (call (.ref f) [.ref x, b]) (PySem.W.CmpBack Q) E s) : wpAny (model prog w) A (richCompare .Eq b (.ref x)) Q E s := by
  have one := try_own (b := b) X I hm h
  simp only [richCompare, cmpInfo_Eq, ho]
  refine wpAny_holding (wpAny_bind (wpAny_cRoomFor hu ?_))
  refine wpAny_bind (wpAny_typeOf hb (wpAny_bind (I.type.here ?_)))
  split
  · refine wpAny_bind ((PySem.W.looks_mroIn X hn).here ?_)
    simp only [Bool.false_eq_true, if_false, Bool.not_false, if_true]
    refine wpAny_bind (m := tryCompare b _ (.ref x)) (hd _ ?_)
    refine wpAny_bind (m := tryCompare (.ref x) _ b) (wpAny_mono one (fun r s' z => ?_) fun _ _ e => e)
    obtain ⟨v, rfl, hq⟩ := z
    exact wpAny_pure hq
  · rename_i q
    exact absurd (by simp) q
end
section
variable {prog : Program} {w : World} {A : Around} {E : Value → Shared → Prop} {s : Shared} {K : PySem.W.Frag} {x C dx : Addr} {od : Option Obj}
theorem int_dec_ins (b : Int) (u : Tok) (l C dx : Addr) :
    Meets (Builtin.«int.__eq__» ⟨[.int b u, .ref l], []⟩) (fun _ R s => s.heap.get? l = some { cls := .ref C, dict := some dx, data := .plain } ∧ R (.ok (.ret .notImplemented)) s) :=
  .of_wp fun prog w A R s h => by obtain ⟨hp, g, d, tk, os⟩ := s; obtain ⟨hl, h⟩ := h; wp_walk using wpAny_loadPart' hl, wpAny_load hl; exact ⟨_, rfl, h⟩
theorem bool_dec_ins (b : Bool) (l C dx : Addr) :
    Meets (Builtin.«int.__eq__» ⟨[.bool b, .ref l], []⟩) (fun _ R s => s.heap.get? l = some { cls := .ref C, dict := some dx, data := .plain } ∧ R (.ok (.ret .notImplemented)) s) :=
  .of_wp fun prog w A R s h => by obtain ⟨hp, g, d, tk, os⟩ := s; obtain ⟨hl, h⟩ := h; wp_walk using wpAny_loadPart' hl, wpAny_load hl; exact ⟨_, rfl, h⟩
theorem str_dec_ins (b : Str) (u : Tok) (l C dx : Addr) :
    Meets (Builtin.«str.__eq__» ⟨[.str b u, .ref l], []⟩) (fun _ R s => s.heap.get? l = some { cls := .ref C, dict := some dx, data := .plain } ∧ R (.ok (.ret .notImplemented)) s) :=
  .of_wp fun prog w A R s h => by obtain ⟨hp, g, d, tk, os⟩ := s; obtain ⟨hl, h⟩ := h; wp_walk using wpAny_loadPart' hl, wpAny_load hl; exact ⟨_, rfl, h⟩
theorem wpAny_noInst {M : Model} {T : String} {Q : Bool → Shared → Prop} (X : K.In s.heap) (I : PySem.W.InstAt s.heap x (PySem.W.instObj C dx) C od) (hn : PySem.W.mroIn K C (.type T) = some false) (h : Q false s) : wpAny M A (isInstance (.ref x) (.type T)) Q E s := by
  unfold isInstance
  exact wpAny_bind (I.type.here ((PySem.W.looks_mroIn X hn).here h))
theorem list_dec_ins (l : Addr) (X : K.In s.heap) (I : PySem.W.InstAt s.heap x (PySem.W.instObj C dx) C od) (hn : PySem.W.mroIn K C (.type "list") = some false) {Q : Fin → Shared → Prop} (h : Q (.done (.ret .notImplemented)) s) :
    wpAny (model prog w) A (Builtin.«list.__eq__» ⟨[.ref l, .ref x], []⟩) Q E s := by
  unfold Builtin.«list.__eq__»
  wp_walk using wpAny_noInst X I hn
  exact h
theorem tuple_dec_ins (l : Addr) (X : K.In s.heap) (I : PySem.W.InstAt s.heap x (PySem.W.instObj C dx) C od) (hn : PySem.W.mroIn K C (.type "tuple") = some false) {Q : Fin → Shared → Prop} (h : Q (.done (.ret .notImplemented)) s) :
    wpAny (model prog w) A (Builtin.«tuple.__eq__» ⟨[.ref l, .ref x], []⟩) Q E s := by
  unfold Builtin.«tuple.__eq__»
  wp_walk using wpAny_noInst X I hn
  exact h
theorem dict_dec_ins (l : Addr) (hT : s.TypeIs (.ref l) "dict") (X : K.In s.heap) (I : PySem.W.InstAt s.heap x (PySem.W.instObj C dx) C od) (hn : PySem.W.mroIn K C (.type "dict") = some false) {Q : Fin → Shared → Prop} (h : Q (.done (.ret .notImplemented)) s) :
    wpAny (model prog w) A (Builtin.«dict.__eq__» ⟨[.ref l, .ref x], []⟩) Q E s := by
  show wpAny _ _ (Builtin.Dict.dictSlotArgs "__eq__" ⟨[.ref l, .ref x], []⟩ >>= _) _ _ s
  refine wpAny_bind ?_
  unfold Builtin.Dict.dictSlotArgs
  refine wpAny_bind (wpAny_notOrdered_dict hT ?_)
  show wpAny _ _ (pure (Value.ref l, Value.ref x)) _ _ s
  refine wpAny_pure ?_
  refine wpAny_bind (wpAny_noInst X I hn ?_)
  simp only [Bool.not_false, if_true]
  refine wpAny_bind (wpAny_rule ?_)
  exact wpAny_pure h
end
theorem cmpback_ {P : Value → Shared → Prop} {z : V} {v : Value} {s' : Shared} (r : RelV z v) (h : P v s') : PySem.W.CmpBack P v s' := by
  cases v with
  | notImplemented =>
    cases z with
    | int i => exact nomatch (show ∃ t, Value.notImplemented = Value.int i t from r)
    | str i => exact nomatch (show ∃ t, Value.notImplemented = Value.str i t from r)
    | byt i => exact nomatch (show ∃ t, Value.notImplemented = Value.bytes i t from r)
    | flt i => exact nomatch (show ∃ t, Value.notImplemented = Value.float i t from r)
    | non => exact nomatch (show Value.notImplemented = Value.none from r)
    | bl b => exact nomatch (show Value.notImplemented = Value.bool b from r)
    | ref a => exact nomatch (show Value.notImplemented = Value.ref a from r)
    | ty n => exact nomatch (show Value.notImplemented = Value.type n from r)
  | _ => exact h
/-- values whose == declines an instance -/
inductive Dec (K : PySem.W.Frag) (H : Hp) : V → Prop where
  | non : Dec K H .non
  | bl (b : Bool) : Dec K H (.bl b)
  | int (i : Int) : Dec K H (.int i)
  | str (z : Str) : Dec K H (.str z)
  | lst {a : Addr} {xs : List V} (e : SqL K H a xs) : Dec K H (.ref a)
  | tup {a : Addr} {xs : List V} (e : SqT K H a xs) : Dec K H (.ref a)
  | dK {a : Addr} {kvs : List (Key × V)} (e : H a = some (.dK kvs)) : Dec K H (.ref a)
/-- a rich comparison below the running body -/
def RcO (X : Cx) (k : Nat) (r : R2) : Prop := ∀ (A : Around) (pins : List (Addr × Obj)) (s : Shared) (σ : L2.St) (H : Hp) (x y : V) (u v : Value) (Q : VK), Rm k A → A.frames = X.A.frames → Inv X pins σ H s → RelV x u → RelV y v → r x y H Q →
  wpAny (model X.prog X.w) A (richCompare .Eq u v) (EP X pins σ Q) X.xe s
section
variable {X : Cx} {k : Nat} {f C : Addr} {sp : Sp} {pins : List (Addr × Obj)} {σ : L2.St} {H : Hp} {s : Shared}
theorem dec_try {x : Addr} {dx : Addr} {od : Option Obj} {z : V} {u : Value} (I : Inv X pins σ H s) (r : RelV z u) (d : Dec X.K H z) (J : PySem.W.InstAt s.heap x (PySem.W.instObj C dx) C od) (nb : NoBase X.K C) :
    ∃ T, s.TypeIs u T ∧ oneThing? .Eq u (.ref x) = none ∧ PySem.W.mroIn X.K C (.type T) = some false ∧ ∀ (A : Around) (E : Value → Shared → Prop) (Q' : Option Value → Shared → Prop), Q' none s → wpAny (model X.prog X.w) A (tryCompare u "__eq__" (.ref x)) Q' E s := by
  cases d with
  | non =>
    cases (show u = Value.none from r)
    exact ⟨"NoneType", rfl, rfl, nb.non, fun A E Q' h => wpAny_tryCompare_declines (show s.TypeIs .none "NoneType" from rfl) F.slot_NoneType_eq (call_gives F.slot_NoneType_eq rfl F.entry_NoneType_eq (F.args_NoneType_eq_2 _ _) (NoneType___eq___none_ref_0 x) ⟨rfl, h⟩)⟩
  | bl b =>
    cases (show u = Value.bool b from r)
    exact ⟨"bool", rfl, rfl, nb.bl, fun A E Q' h => wpAny_tryCompare_declines (show s.TypeIs (.bool b) "bool" from rfl) F.slot_bool_eq (call_meets F.slot_bool_eq rfl F.entry_int_eq (F.args_int_eq_2 _ _) (bool_dec_ins b x C dx) ⟨J.at_, rfl, h⟩)⟩
  | int i =>
    obtain ⟨t, e⟩ := (show ∃ t, u = Value.int i t from r)
    cases e
    exact ⟨"int", typeIs_int s i t, rfl, nb.int, fun A E Q' h => wpAny_tryCompare_declines (typeIs_int s i t) F.slot_int_eq (call_meets F.slot_int_eq (typeIs_int s i t) F.entry_int_eq (F.args_int_eq_2 _ _) (int_dec_ins i t x C dx) ⟨J.at_, rfl, h⟩)⟩
  | str z =>
    obtain ⟨t, e⟩ := (show ∃ t, u = Value.str z t from r)
    cases e
    exact ⟨"str", typeIs_str s z t, rfl, nb.str, fun A E Q' h => wpAny_tryCompare_declines (typeIs_str s z t) F.slot_str_eq (call_meets F.slot_str_eq (typeIs_str s z t) F.entry_str_eq (F.args_str_eq_2 _ _) (str_dec_ins z t x C dx) ⟨J.at_, rfl, h⟩)⟩
  | @lst a xs e =>
    cases (show u = Value.ref a from r)
    obtain ⟨its, rl, pl, hz⟩ := I.list e
    obtain ⟨o, n, ho, hc, _⟩ := pl
    have hT : s.TypeIs (.ref a) "list" := ⟨_, ho, hc⟩
    exact ⟨"list", hT, oneThing_ref _ _ _, nb.lst, fun A E Q' h => wpAny_tryCompare_declines hT F.slot_list_eq (wpAny_call_entry F.slot_list_eq hT F.entry_list_eq (list_dec_ins a I.kIn J nb.lst ⟨_, rfl, rfl, h⟩) (F.args_list_eq_2 _ _))⟩
  | @tup a xs e =>
    cases (show u = Value.ref a from r)
    obtain ⟨its, rl, ⟨o, ho, hc, n, d⟩, hz⟩ := I.tuple e
    have hT : s.TypeIs (.ref a) "tuple" := ⟨_, ho, hc⟩
    exact ⟨"tuple", hT, oneThing_ref _ _ _, nb.tup, fun A E Q' h => wpAny_tryCompare_declines hT F.slot_tuple_eq (wpAny_call_entry F.slot_tuple_eq hT F.entry_tuple_eq (tuple_dec_ins a I.kIn J nb.tup ⟨_, rfl, rfl, h⟩) (F.args_tuple_eq_2 _ _))⟩
  | @dK a kvs e =>
    cases (show u = Value.ref a from r)
    have hT : s.TypeIs (.ref a) "dict" := by
      obtain ⟨_, _, vs, _, hD⟩ := (show ObjOk _ _ H s.heap a (.dK kvs) from I.hok a _ e)
      exact hD.typeIs
    exact ⟨"dict", hT, oneThing_ref _ _ _, nb.dct, fun A E Q' h => wpAny_tryCompare_declines hT F.slot_dict_eq (wpAny_call_entry F.slot_dict_eq hT F.entry_dict_eq (dict_dec_ins a hT I.kIn J nb.dct ⟨_, rfl, rfl, h⟩) (F.args_dict_eq_2 _ _))⟩
/-- x == y: x an instance of C -/
def rEqL (K : PySem.W.Frag) (C : Addr) (sp : Sp) : R2 := fun x y H Q => ∃ a dx fs t, x = .ref a ∧ H a = some (.ins C dx fs) ∧ TyX K H y t ∧ NoSub K C t ∧ sp [x, y] H Q (fun _ _ _ => False)
/-- x == y: y an instance of C, x declines -/
def rEqR (K : PySem.W.Frag) (C : Addr) (sp : Sp) : R2 := fun x y H Q => ∃ a dx fs, y = .ref a ∧ H a = some (.ins C dx fs) ∧ Dec K H x ∧ sp [y, x] H Q (fun _ _ _ => False)
theorem rco_L (hm : Meth X.K C "__eq__" f) (F : Fc X.prog X.w X.K X.mg X.base k f [] sp) : RcO X k (rEqL X.K C sp) := by
  intro A pins s σ H x y u v Q hr hf I rx ry h
  obtain ⟨a, dx, fs, t, rfl, ha, ty, ns, hsp⟩ := h
  cases (show u = Value.ref a from rx)
  obtain ⟨mA, J, _⟩ := ins_get I.hok ha
  obtain ⟨od, J, _⟩ := J.look
  obtain ⟨P, kx, hP, _⟩ := kit_of I ry ty
  have run := run_fcA (A := A) (W := fun _ _ _ _ => False) (us := [.ref a, v]) (ws := []) (vs := [.ref a, y]) (σ := σ) F hr hf takes0 I (.cons rfl (.cons ry .nil)) rfl hsp
  refine rc_ownL (by have := hr.rm.un; omega) I.kIn J (kx.ty _ _ I.kIn hP) ns hm (wpAny_mono run (fun w s' z => ?_) fun _ _ x => x)
  obtain ⟨z', H', I', rz, qz⟩ := z
  exact cmpback_ rz ⟨z', H', I', rz, qz⟩
theorem rco_R (nb : NoBase X.K C) (hm : Meth X.K C "__eq__" f) (F : Fc X.prog X.w X.K X.mg X.base k f [] sp) : RcO X k (rEqR X.K C sp) := by
  intro A pins s σ H x y u v Q hr hf I rx ry h
  obtain ⟨a, dx, fs, rfl, ha, d, hsp⟩ := h
  cases (show v = Value.ref a from ry)
  obtain ⟨mA, J, _⟩ := ins_get I.hok ha
  obtain ⟨od, J, _⟩ := J.look
  obtain ⟨T, hT, h1, hn, hd⟩ := dec_try I rx d J nb
  have run := run_fcA (A := A) (W := fun _ _ _ _ => False) (us := [.ref a, u]) (ws := []) (vs := [.ref a, x]) (σ := σ) F hr hf takes0 I (.cons rfl (.cons rx .nil)) rfl hsp
  refine rc_ownR (by have := hr.rm.un; omega) I.kIn J hT h1 hn hm (hd _ _) (wpAny_mono run (fun w s' z => ?_) fun _ _ x => x)
  obtain ⟨z', H', I', rz, qz⟩ := z
  exact cmpback_ rz ⟨z', H', I', rz, qz⟩
def rOr (r r' : R2) : R2 := fun x y H Q => r x y H Q ∨ r' x y H Q
theorem rco_or {r r' : R2} (h : RcO X k r) (h' : RcO X k r') : RcO X k (rOr r r') := fun A pins s σ H x y u v Q hr hf I rx ry q =>
  q.elim (fun q => h A pins s σ H x y u v Q hr hf I rx ry q) fun q => h' A pins s σ H x y u v Q hr hf I rx ry q
theorem rco_mono {r : R2} {j : Nat} (h : RcO X j r) (hj : j ≤ k) : RcO X k r := fun A pins s σ H x y u v Q hr hf I rx ry q => h A pins s σ H x y u v Q (hr.mono hj) hf I rx ry q
theorem op_eqO {r : R2} (h : RcO X k r) (hr : Rm k X.A) : OpR X (compareOp .Eq) r := fun pins s σ H x y u v Q I rx ry q => h X.A pins s σ H x y u v Q hr rfl I rx ry q
theorem ifBound_objNe {M : Model} {A : Around} {E : Value → Shared → Prop} {K : PySem.W.Frag} {x : Addr} {ox : Obj} {od : Option Obj} {args : List Value} {Q : Option Value → Shared → Prop} (X : K.In s.heap) (I : PySem.W.InstAt s.heap x ox C od) (hs : PySem.W.findIn K (.ref C) "__ne__" = some (some (.builtin "object.__ne__")))
    (h : wpAny M A (call (.builtin "object.__ne__") (.ref x :: args)) (fun v => Q (some v)) E s) : wpAny M A (callSpecialIfBound? (.ref x) "__ne__" args) Q E s := by
  simp only [callSpecialIfBound?, bindSpecialIfBound?]
  refine wpAny_holding (wpAny_bind (wpAny_bind (wpAny_bind (I.type.here ((PySem.W.looks_findIn X hs).here ?_)))))
  refine wpAny_bind (wpAny_askSetting (wpAny_ite ?_))
  have fin : wpAny M A (call (.builtin "object.__ne__") ([.ref x] ++ args) >>= fun v => pure (some v)) Q E s := wpAny_bind (wpAny_mono h (fun v s' h' => wpAny_pure h') fun _ _ h' => h')
  split
  · exact wpAny_bind (wpAny_of_eq (F.cmp_object.ne.bind _) (wpAny_pure (by exact fin)))
  · exact wpAny_tryCatch (wpAny_bind (wpAny_of_eq (F.cmp_object.ne.bind _) (wpAny_pure (by exact fin))))
/-- x != y by the own ==: x an instance of C -/
def rNeL (K : PySem.W.Frag) (C : Addr) (sp : Sp) : R2 := fun x y H Q => ∃ a dx fs t, x = .ref a ∧ H a = some (.ins C dx fs) ∧ TyX K H y t ∧ NoSub K C t ∧ sp [x, y] H (fun v H' => ∃ b, v = .bl b ∧ Q (.bl (!b)) H') (fun _ _ _ => False)
theorem op_neO (nb : NoBase X.K C) (hm : Meth X.K C "__eq__" f) (F : Fc X.prog X.w X.K X.mg X.base k f [] sp) (hr : Rm (k + 1) X.A) : OpR X (compareOp .NotEq) (rNeL X.K C sp) := by
  intro pins s σ H x y u v Q I rx ry h
  obtain ⟨a, dx, fs, t, rfl, ha, ty, ns, hsp⟩ := h
  cases (show u = Value.ref a from rx)
  obtain ⟨mA, J, _⟩ := ins_get I.hok ha
  obtain ⟨od, J, _⟩ := J.look
  obtain ⟨P, kx, hP, _⟩ := kit_of I ry ty
  have hb := kx.ty (model X.prog X.w) _ I.kIn hP
  have run := run_fcA (A := X.A.in1) (W := fun _ _ _ _ => False) (us := [.ref a, v]) (ws := []) (vs := [.ref a, y]) (σ := σ) F hr.in1 rfl takes0 I (.cons rfl (.cons ry .nil)) rfl hsp
  have one : wpAny (model X.prog X.w) X.A (tryCompare (.ref a) "__ne__" v) (fun r s' => ∃ z, r = some z ∧ EP X pins σ Q z s') X.xe s := by
    unfold tryCompare
    refine wpAny_bind (ifBound_objNe I.kIn J nb.ne (wpAny_call (codeAny_call_builtin PySem.F.cmp_object.ne.plain PySem.F.cmpEntry_ne (PySem.W.check_slot PySem.F.cmpKind_ne PySem.F.cmpSplit_ne (J.type.andThen (PySem.W.looks_mroIn I.kIn nb.ob)) (PySem.F.cmpArgs_ne _ _) ?_))))
    show wpAny _ X.A.in1 _ _ _ _
    have two : wpAny (model X.prog X.w) X.A.in1 (callSpecialIfBound? (.ref a) "__eq__" [v]) (fun r s' => ∃ b, r = some (.bool b) ∧ ∃ H', Inv X pins σ H' s' ∧ Q (.bl (!b)) H') X.xe s := by
      refine PySem.W.ifBound_K I.kIn J hm.at_ hm.fn (wpAny_mono run (fun w s' z => ?_) fun _ _ x => x)
      obtain ⟨z', H', I', rz, b, rfl, qz⟩ := z
      cases (show w = Value.bool b from rz)
      exact ⟨b, rfl, H', I', qz⟩
    unfold Builtin.«object.__ne__»
    refine wpAny_bind (wpAny_pure ?_)
    refine wpAny_bind (wpAny_cRoomFor (by have := hr.in1.rm.un; omega) ?_)
    refine wpAny_bind (wpAny_mono two (fun r s' z => ?_) fun _ _ x => x)
    obtain ⟨b, rfl, H', I', qz⟩ := z
    refine wpAny_bind (wpAny_truthy_bool ?_)
    exact wpAny_pure (wpAny_pure ⟨_, rfl, ⟨.bl (!b), H', I', rfl, qz⟩⟩)
  show wpAny _ _ (richCompare .NotEq (.ref a) v) _ _ _
  simp only [richCompare, cmpInfo_NotEq, oneThing_ref]
  refine wpAny_holding (wpAny_bind (wpAny_cRoomFor (by have := hr.rm.un; omega) ?_))
  refine wpAny_bind (J.type.here (wpAny_bind (hb.here ?_)))
  split
  · rename_i q
    refine wpAny_bind ((noSub_look ns I.kIn q).here ?_)
    simp only [Bool.false_eq_true, if_false]
    refine wpAny_bind (wpAny_mono one (fun r s' z => ?_) fun _ _ e => e)
    obtain ⟨v, rfl, hq⟩ := z
    exact wpAny_pure hq
  · refine wpAny_bind (wpAny_pure ?_)
    simp only [Bool.false_eq_true, if_false]
    refine wpAny_bind (wpAny_mono one (fun r s' z => ?_) fun _ _ e => e)
    obtain ⟨v, rfl, hq⟩ := z
    exact wpAny_pure hq
/-- x in a list, each item compared by r, the same object found ahead -/
def inW (r : R2) (K : PySem.W.Frag) (a : Addr) (ys : List V) (b : Addr) : List V → Hp → (Bool → Hp → Prop) → Prop
  | [], H, Q => SqL K H a ys ∧ Q false H
  | y :: l, H, Q => SqL K H a ys ∧ ((y = .ref b ∧ Q true H) ∨ (y ≠ .ref b ∧ r y (.ref b) H fun v H' => ∃ z, v = .bl z ∧ if z = true then Q true H' else inW r K a ys b l H' Q))
def rInO (r : R2) (K : PySem.W.Frag) : R2 := fun x y H Q => ∃ b a ys, x = .ref b ∧ y = .ref a ∧ inW r K a ys b ys H fun b H' => Q (.bl b) H'
theorem eqBool_itm {A : Around} {r : R2} {b : Addr} {y : V} {u : Value} (h : RcO X k r) (hr : Rm k A) (hf : A.frames = X.A.frames) (I : Inv X pins σ H s) (ry : RelV y u) {Q : Bool → Hp → Prop}
    (q : (y = .ref b ∧ Q true H) ∨ (y ≠ .ref b ∧ r y (.ref b) H fun v H' => ∃ z, v = .bl z ∧ Q z H')) : wpAny (model X.prog X.w) A (eqBool u (.ref b)) (fun z s' => ∃ H', Inv X pins σ H' s' ∧ Q z H') X.xe s := by
  rcases q with ⟨rfl, q⟩ | ⟨ne, q⟩
  · cases (show u = Value.ref b from ry)
    exact SeqAt.EqAt.same (A := A) (s := s) (.ref b) X.prog X.w X.xe _ ⟨H, I, q⟩
  · have hu : (u == Value.ref b) = false := by
      rw [beq_eq_false_iff_ne]
      rintro rfl
      apply ne
      cases y with
      | ref a => injection (show Value.ref b = Value.ref a from ry) with e; rw [e]
      | int i => exact nomatch (show ∃ t, Value.ref b = Value.int i t from ry)
      | str i => exact nomatch (show ∃ t, Value.ref b = Value.str i t from ry)
      | byt i => exact nomatch (show ∃ t, Value.ref b = Value.bytes i t from ry)
      | flt i => exact nomatch (show ∃ t, Value.ref b = Value.float i t from ry)
      | non => exact nomatch (show Value.ref b = Value.none from ry)
      | bl c => exact nomatch (show Value.ref b = Value.bool c from ry)
      | ty n => exact nomatch (show Value.ref b = Value.type n from ry)
    have run := h A pins s σ H y (.ref b) u (.ref b) _ hr hf I ry rfl q
    unfold eqBool
    refine wpAny_holding ?_
    refine wpAny_ite_split (fun hab => absurd hab (by rw [hu]; decide)) (fun _ => ?_)
    have fin : wpAny (model X.prog X.w) A (richCompare .Eq u (.ref b) >>= fun v => truthOfDropped v) (fun z s' => ∃ H', Inv X pins σ H' s' ∧ Q z H') X.xe s := by
      refine wpAny_bind (wpAny_mono run (fun v s' hv => ?_) fun _ _ x => x)
      obtain ⟨z', H', I', rz, z, rfl, q⟩ := hv
      cases (show v = Value.bool z from rz)
      exact wpAny_truthy_bool ⟨H', I', q⟩
    cases u <;> exact fin
theorem in_loop {r : R2} {a b : Addr} {ys : List V} (h : RcO X k r) {R : Result → Shared → Prop} (hE : ∀ e s', X.xe e s' → R (.error e) s') (hr : Rm (k + 1) X.A) (Q : Bool → Hp → Prop) (hR : ∀ z H' s', Inv X pins σ H' s' → Q z H' → R (.ok (.ret (.bool z))) s') :
    ∀ (l : List V) (i : Nat) (H : Hp) (s : Shared), l = ys.drop i → Inv X pins σ H s → inW r X.K a ys b l H Q → wpAny (model X.prog X.w) X.A.in1 (Builtin.«list.__contains__.loop» ⟨[.ref a, .ref b, rawInt i], []⟩) (GQ.FinOf X.prog X.w X.A R) (fun e s' => R (.error e) s') s
  | [], i, H, s, el, I, hq => by
    obtain ⟨hS, q⟩ := hq
    obtain ⟨its, rl, pl, hz⟩ := I.list hS
    obtain ⟨⟨cls, dd, data, sl⟩, n, ho, hc, hd, hs⟩ := pl
    simp only at hc hd hs
    subst hc hd hs
    have hlen : ys.length ≤ i := List.drop_eq_nil_iff.mp el.symm
    have hR' := hR false H s I q
    have hl2 : its.length = ys.length := rl.length.symm
    obtain ⟨hp, g, d, tk, os⟩ := s
    wp_walk using AutoSeq1.wpAny_loadPart' ho
    have hi : its.toArray[((i : Nat) : Int).toNat]? = none := by simp; omega
    rw [hi]
    wp_walk
    exact hR'
  | y :: l, i, H, s, el, I, hq => by
    obtain ⟨hS, q⟩ := hq
    obtain ⟨its, rl, pl, hz⟩ := I.list hS
    obtain ⟨⟨cls, dd, data, sl⟩, n, ho, hc, hd, hs⟩ := pl
    simp only at hc hd hs
    subst hc hd hs
    have hy : ys[i]? = some y := by
      have : (ys.drop i)[0]? = some y := by rw [← el]; rfl
      rwa [List.getElem?_drop] at this
    obtain ⟨u, hu, ry⟩ : ∃ u, its[i]? = some u ∧ RelV y u := rl.get hy
    have step := eqBool_itm (A := X.A.in1) (Q := fun z H' => if z = true then Q true H' else inW r X.K a ys b l H' Q) h hr.in1 rfl I ry (q.imp (fun q => ⟨q.1, by simpa using q.2⟩) id)
    have rec_ := fun H' s' I' => in_loop (a := a) (b := b) h hE hr Q hR l (i + 1) H' s' (by rw [← List.tail_drop, ← el]; rfl) I'
    obtain ⟨hp, g, d, tk, os⟩ := s
    wp_walk using AutoSeq1.wpAny_loadPart' ho
    have hi : its.toArray[((i : Nat) : Int).toNat]? = some u := by simpa using hu
    rw [hi]
    refine wpAny_bind (wpAny_mono step (fun z s' hz => ?_) hE)
    obtain ⟨H', I', qz⟩ := hz
    cases z with
    | true =>
      have hR' := hR true H' s' I' (by simpa using qz)
      obtain ⟨hp2, g2, d2, tk2, os2⟩ := s'
      wp_walk
      exact hR'
    | false =>
      have hrec := rec_ H' s' I' (by simpa using qz)
      have hc : ((i : Int) + 1) = ((i + 1 : Nat) : Int) := by omega
      obtain ⟨hp2, g2, d2, tk2, os2⟩ := s'
      wp_walk
      rw [hc]
      exact ⟨plainId_quiet MeetsSeq.plain_contains_loop _, codeAny_builtin MeetsSeq.entry_contains_loop (by
        rw [Around.under_plainId MeetsSeq.plain_contains_loop _]
        exact hrec)⟩
theorem op_inO {r : R2} (h : RcO X k r) (hr : Rm (k + 1) X.A) : OpR X (compareOp .In) (rInO r X.K) := by
  intro pins s σ H x y u v Q I rx ry hq
  obtain ⟨b, a, ys, rfl, rfl, hq⟩ := hq
  cases (show u = Value.ref b from rx)
  cases (show v = Value.ref a from ry)
  have hS : SqL X.K H a ys := by cases ys with | nil => exact hq.1 | cons _ _ => exact hq.1
  obtain ⟨its, rl, pl, hz⟩ := I.list hS
  obtain ⟨o, n, ho, hc, _⟩ := pl
  have hT : s.TypeIs (.ref a) "list" := ⟨_, ho, hc⟩
  show wpAny _ X.A (contains (.ref a) (.ref b) >>= fun z => pure (Value.bool z)) _ _ s
  refine wpAny_bind (wpAny_contains_slot hT PySem.F.slot_list_contains (wpAny_mono (Q := fun (v : Value) s' => ∃ z, v = Value.bool z ∧ EP X pins σ Q (Value.bool z) s') (GQ.call_here PySem.F.slot_list_contains hT PySem.F.entry_list_contains (PySem.F.args_list_contains_2 _ _) ?_) (fun v s' hv => ?_) fun _ _ e => e))
  · have hrec := in_loop h (R := wants (fun v s' => ∃ z, v = .bool z ∧ EP X pins σ Q (.bool z) s') X.xe) (fun e s' x => x) hr (fun b H' => Q (.bl b) H') (fun z H' s' I' q => ⟨z, rfl, .bl z, H', I', rfl, q⟩) ys 0 H s rfl I hq
    obtain ⟨hp, g, d, tk, os⟩ := s
    wp_walk
    exact ⟨plainId_quiet MeetsSeq.plain_contains_loop _, codeAny_builtin MeetsSeq.entry_contains_loop (by
      rw [Around.under_plainId MeetsSeq.plain_contains_loop _]
      exact hrec)⟩
  · obtain ⟨z, rfl, hq⟩ := hv
    exact wpAny_truthy_bool (wpAny_pure hq)
theorem rco_LK (K : PySem.W.Frag) (hm : Meth K C "__eq__" f) (F : Fc X.prog X.w K X.mg X.base k f [] sp) (h : X.K = K := by rfl) : RcO X k (rEqL K C sp) := by
  subst h
  exact rco_L hm F
theorem rco_RK (K : PySem.W.Frag) (nb : NoBase K C) (hm : Meth K C "__eq__" f) (F : Fc X.prog X.w K X.mg X.base k f [] sp) (h : X.K = K := by rfl) : RcO X k (rEqR K C sp) := by
  subst h
  exact rco_R nb hm F
theorem op_neOK (K : PySem.W.Frag) (nb : NoBase K C) (hm : Meth K C "__eq__" f) (F : Fc X.prog X.w K X.mg X.base k f [] sp) (hr : Rm (k + 1) X.A) (h : X.K = K := by rfl) : OpR X (compareOp .NotEq) (rNeL K C sp) := by
  subst h
  exact op_neO nb hm F hr
theorem op_inOK (K : PySem.W.Frag) {r : R2} (h : RcO X k r) (hr : Rm (k + 1) X.A) (e : X.K = K := by rfl) : OpR X (compareOp .In) (rInO r K) := by
  subst e
  exact op_inO h hr
end
end L3
set_option Elab.async false
set_option linter.all false
set_option maxRecDepth 100000
set_option maxHeartbeats 4000000
/-! what of the kit is wanted beside -/
namespace L3
open PySem PySem.Spec PyProof.Rows L2 PySem.SeqAt PySem.Calls
theorem room65 {k : Nat} {A : Around} (r : Room k A) : A.units + 65 < cLine := by have := r.un; omega
theorem call_isiK {X : Cx} (K : PySem.W.Frag) (h : X.K = K := by rfl) : CallR X (.builtin "isinstance") (rIsi K) := by
  subst h
  exact call_isi
end L3
set_option Elab.async false
set_option linter.all false
set_option maxRecDepth 100000
set_option maxHeartbeats 4000000
namespace Toy
open PySem PySem.Spec PyProof.Rows L2 L3
def top (i : Nat) : Stmt := PySem.Challenge.pw_shortgoings_k46_texts_of_no_days.main.body.getD i (.Pass ⟨0, 0, 0, 0⟩)
abbrev s__wall : Stmt := top 0
abbrev s_NoText_init : Stmt := inClass (top 11) 0
abbrev s_is_whole : Stmt := top 14
abbrev s_is_moment : Stmt := top 15
abbrev s_are_figures : Stmt := top 16
abbrev s_want_day : Stmt := top 21
abbrev s_are_signs : Stmt := top 22
abbrev s_Ring_init : Stmt := inClass (top 23) 0
abbrev s_Ring_eq : Stmt := inClass (top 23) 1
abbrev s_Ring_len : Stmt := inClass (top 23) 2
abbrev s_Ring_str : Stmt := inClass (top 23) 3
abbrev s_Ring_repr : Stmt := inClass (top 23) 4
abbrev s_Ring_rings : Stmt := inClass (top 23) 5
abbrev s_Ring_least : Stmt := inClass (top 23) 6
abbrev s_told_days : Stmt := top 30
abbrev s_want_till : Stmt := top 31
abbrev s_Days_init : Stmt := inClass (top 32) 0
abbrev s_Days_eq : Stmt := inClass (top 32) 1
abbrev s_Days_str : Stmt := inClass (top 32) 2
abbrev s_Days_repr : Stmt := inClass (top 32) 3
abbrev s_Days_has : Stmt := inClass (top 32) 4
abbrev s_Days_first_from : Stmt := inClass (top 32) 5
abbrev s_Days_how_many : Stmt := inClass (top 32) 6
abbrev s_Days_among : Stmt := inClass (top 32) 7
abbrev s_edges_of : Stmt := top 33
abbrev s_stretches : Stmt := top 34
abbrev s_first_days : Stmt := top 35
abbrev s_common_round : Stmt := top 36
abbrev s_first_apart : Stmt := top 37
abbrev s_day_in : Stmt := top 38
abbrev s_days_of : Stmt := top 39
abbrev s_read_days : Stmt := top 40
abbrev s__law_pot : Stmt := top 42
abbrev s__law_take : Stmt := top 43
abbrev s__law_great : Stmt := top 44
abbrev s__law_bits : Stmt := top 45
abbrev s__law_near : Stmt := top 46
abbrev s__law_few : Stmt := top 47
abbrev s__law_some : Stmt := top 48
abbrev s__law_written : Stmt := top 49
abbrev s__law_signs : Stmt := top 50
abbrev s__law_signs_spoilt : Stmt := top 51
abbrev s__law_spoilt : Stmt := top 52
abbrev s__law_odd : Stmt := top 53
abbrev s__law_number : Stmt := top 54
abbrev s__law_list : Stmt := top 55
abbrev s__law_parts : Stmt := top 56
abbrev s__law_read : Stmt := top 57
abbrev s__law_told : Stmt := top 58
abbrev s__law_right : Stmt := top 59
abbrev s_law : Stmt := top 60
theorem sc__wall : FnScope ["k"] ["k"] (defScope s__wall) := ⟨rfl, rfl, rfl, by decide +kernel, rfl, by decide +kernel, by decide +kernel⟩
theorem sc_NoText_init : FnScope ["self", "row"] ["self", "row"] (defScope s_NoText_init) := ⟨rfl, rfl, rfl, by decide +kernel, rfl, by decide +kernel, by decide +kernel⟩
theorem sc_is_whole : FnScope ["thing"] ["thing"] (defScope s_is_whole) := ⟨rfl, rfl, rfl, by decide +kernel, rfl, by decide +kernel, by decide +kernel⟩
theorem sc_is_moment : FnScope ["thing"] ["thing"] (defScope s_is_moment) := ⟨rfl, rfl, rfl, by decide +kernel, rfl, by decide +kernel, by decide +kernel⟩
theorem sc_are_figures : FnScope ["word", "sign"] ["word"] (defScope s_are_figures) := ⟨rfl, rfl, rfl, by decide +kernel, rfl, by decide +kernel, by decide +kernel⟩
theorem sc_want_day : FnScope ["thing"] ["thing"] (defScope s_want_day) := ⟨rfl, rfl, rfl, by decide +kernel, rfl, by decide +kernel, by decide +kernel⟩
theorem sc_are_signs : FnScope ["thing", "sign"] ["thing"] (defScope s_are_signs) := ⟨rfl, rfl, rfl, by decide +kernel, rfl, by decide +kernel, by decide +kernel⟩
theorem sc_Ring_init : FnScope ["self", "text"] ["self", "text"] (defScope s_Ring_init) := ⟨rfl, rfl, rfl, by decide +kernel, rfl, by decide +kernel, by decide +kernel⟩
theorem sc_Ring_eq : FnScope ["self", "other"] ["self", "other"] (defScope s_Ring_eq) := ⟨rfl, rfl, rfl, by decide +kernel, rfl, by decide +kernel, by decide +kernel⟩
theorem sc_Ring_len : FnScope ["self"] ["self"] (defScope s_Ring_len) := ⟨rfl, rfl, rfl, by decide +kernel, rfl, by decide +kernel, by decide +kernel⟩
theorem sc_Ring_str : FnScope ["self"] ["self"] (defScope s_Ring_str) := ⟨rfl, rfl, rfl, by decide +kernel, rfl, by decide +kernel, by decide +kernel⟩
theorem sc_Ring_repr : FnScope ["self"] ["self"] (defScope s_Ring_repr) := ⟨rfl, rfl, rfl, by decide +kernel, rfl, by decide +kernel, by decide +kernel⟩
theorem sc_Ring_rings : FnScope ["self", "day"] ["self", "day"] (defScope s_Ring_rings) := ⟨rfl, rfl, rfl, by decide +kernel, rfl, by decide +kernel, by decide +kernel⟩
theorem sc_Ring_least : FnScope ["self", "many", "some", "k"] ["self"] (defScope s_Ring_least) := ⟨rfl, rfl, rfl, by decide +kernel, rfl, by decide +kernel, by decide +kernel⟩
theorem sc_told_days : FnScope ["thing", "day", "found", "one", "other"] ["thing"] (defScope s_told_days) := ⟨rfl, rfl, rfl, by decide +kernel, rfl, by decide +kernel, by decide +kernel⟩
theorem sc_want_till : FnScope ["since", "till"] ["since", "till"] (defScope s_want_till) := ⟨rfl, rfl, rfl, by decide +kernel, rfl, by decide +kernel, by decide +kernel⟩
theorem sc_Days_init : FnScope ["self", "ring", "since", "till", "out", "also", "day"] ["self", "ring", "since", "till", "out", "also"] (defScope s_Days_init) := ⟨rfl, rfl, rfl, by decide +kernel, rfl, by decide +kernel, by decide +kernel⟩
theorem sc_Days_eq : FnScope ["self", "other"] ["self", "other"] (defScope s_Days_eq) := ⟨rfl, rfl, rfl, by decide +kernel, rfl, by decide +kernel, by decide +kernel⟩
theorem sc_Days_str : FnScope ["self", "words", "word", "some", "day"] ["self"] (defScope s_Days_str) := ⟨rfl, rfl, rfl, by decide +kernel, rfl, by decide +kernel, by decide +kernel⟩
theorem sc_Days_repr : FnScope ["self"] ["self"] (defScope s_Days_repr) := ⟨rfl, rfl, rfl, by decide +kernel, rfl, by decide +kernel, by decide +kernel⟩
theorem sc_Days_has : FnScope ["self", "day"] ["self", "day"] (defScope s_Days_has) := ⟨rfl, rfl, rfl, by decide +kernel, rfl, by decide +kernel, by decide +kernel⟩
theorem sc_Days_first_from : FnScope ["self", "day"] ["self", "day"] (defScope s_Days_first_from) := ⟨rfl, rfl, rfl, by decide +kernel, rfl, by decide +kernel, by decide +kernel⟩
theorem sc_Days_how_many : FnScope ["self", "begin", "end"] ["self", "begin", "end"] (defScope s_Days_how_many) := ⟨rfl, rfl, rfl, by decide +kernel, rfl, by decide +kernel, by decide +kernel⟩
theorem sc_Days_among : FnScope ["self", "begin", "many"] ["self", "begin", "many"] (defScope s_Days_among) := ⟨rfl, rfl, rfl, by decide +kernel, rfl, by decide +kernel, by decide +kernel⟩
theorem sc_edges_of : FnScope ["some", "found", "days", "day"] ["some"] (defScope s_edges_of) := ⟨rfl, rfl, rfl, by decide +kernel, rfl, by decide +kernel, by decide +kernel⟩
theorem sc_stretches : FnScope ["edges", "begin", "end", "starts", "found", "here", "there", "edge"] ["edges", "begin", "end"] (defScope s_stretches) := ⟨rfl, rfl, rfl, by decide +kernel, rfl, by decide +kernel, by decide +kernel⟩
theorem sc_first_days : FnScope ["begin", "end", "many"] ["begin", "end", "many"] (defScope s_first_days) := ⟨rfl, rfl, rfl, by decide +kernel, rfl, by decide +kernel, by decide +kernel⟩
theorem sc_common_round : FnScope ["one", "other", "found"] ["one", "other"] (defScope s_common_round) := ⟨rfl, rfl, rfl, by decide +kernel, rfl, by decide +kernel, by decide +kernel⟩
theorem sc_first_apart : FnScope ["one", "other", "many", "begin", "end", "day"] ["one", "other"] (defScope s_first_apart) := ⟨rfl, rfl, rfl, by decide +kernel, rfl, by decide +kernel, by decide +kernel⟩
theorem sc_day_in : FnScope ["word"] ["word"] (defScope s_day_in) := ⟨rfl, rfl, rfl, by decide +kernel, rfl, by decide +kernel, by decide +kernel⟩
theorem sc_days_of : FnScope ["words", "told", "here", "word", "since", "till"] ["words"] (defScope s_days_of) := ⟨rfl, rfl, rfl, by decide +kernel, rfl, by decide +kernel, by decide +kernel⟩
theorem sc_read_days : FnScope ["text", "found"] ["text"] (defScope s_read_days) := ⟨rfl, rfl, rfl, by decide +kernel, rfl, by decide +kernel, by decide +kernel⟩
theorem sc__law_pot : FnScope ["_law_script", "_law_k", "_law_cell"] ["_law_script", "_law_k"] (defScope s__law_pot) := ⟨rfl, rfl, rfl, by decide +kernel, rfl, by decide +kernel, by decide +kernel⟩
theorem sc__law_take : FnScope ["_law_pot_here", "_law_many", "_law_digit"] ["_law_pot_here", "_law_many"] (defScope s__law_take) := ⟨rfl, rfl, rfl, by decide +kernel, rfl, by decide +kernel, by decide +kernel⟩
theorem sc__law_great : FnScope ["_law_pot_here", "_law_bound", "_law_found", "_law_k"] ["_law_pot_here", "_law_bound"] (defScope s__law_great) := ⟨rfl, rfl, rfl, by decide +kernel, rfl, by decide +kernel, by decide +kernel⟩
theorem sc__law_bits : FnScope ["_law_pot_here", "_law_k"] ["_law_pot_here"] (defScope s__law_bits) := ⟨rfl, rfl, rfl, by decide +kernel, rfl, by decide +kernel, by decide +kernel⟩
theorem sc__law_near : FnScope ["_law_pot_here", "_law_low", "_law_high", "_law_way"] ["_law_pot_here", "_law_low", "_law_high"] (defScope s__law_near) := ⟨rfl, rfl, rfl, by decide +kernel, rfl, by decide +kernel, by decide +kernel⟩
theorem sc__law_few : FnScope ["_law_pot_here", "_law_low", "_law_high", "_law_taken", "_law_found", "_law_k", "_law_spot"] ["_law_pot_here", "_law_low", "_law_high", "_law_taken"] (defScope s__law_few) := ⟨rfl, rfl, rfl, by decide +kernel, rfl, by decide +kernel, by decide +kernel⟩
theorem sc__law_some : FnScope ["_law_pot_here", "_law_way", "_law_bits_here", "_law_low", "_law_high", "_law_gone"] ["_law_pot_here"] (defScope s__law_some) := ⟨rfl, rfl, rfl, by decide +kernel, rfl, by decide +kernel, by decide +kernel⟩
theorem sc__law_written : FnScope ["_law_some_here", "_law_words", "_law_word", "_law_spots", "_law_spot"] ["_law_some_here"] (defScope s__law_written) := ⟨rfl, rfl, rfl, by decide +kernel, rfl, by decide +kernel, by decide +kernel⟩
theorem sc__law_signs : FnScope ["_law_letters"] [] (defScope s__law_signs) := ⟨rfl, rfl, rfl, by decide +kernel, rfl, by decide +kernel, by decide +kernel⟩
theorem sc__law_signs_spoilt : FnScope ["_law_pot_here", "_law_way", "_law_due", "_law_signs_here", "_law_sign", "_law_at"] ["_law_pot_here", "_law_way", "_law_due"] (defScope s__law_signs_spoilt) := ⟨rfl, rfl, rfl, by decide +kernel, rfl, by decide +kernel, by decide +kernel⟩
theorem sc__law_spoilt : FnScope ["_law_pot_here", "_law_due", "_law_way", "_law_words", "_law_at", "_law_there"] ["_law_pot_here", "_law_due"] (defScope s__law_spoilt) := ⟨rfl, rfl, rfl, by decide +kernel, rfl, by decide +kernel, by decide +kernel⟩
theorem sc__law_odd : FnScope ["_law_pot_here", "_law_some_here"] ["_law_pot_here"] (defScope s__law_odd) := ⟨rfl, rfl, rfl, by decide +kernel, rfl, by decide +kernel, by decide +kernel⟩
theorem sc__law_number : FnScope ["_law_word", "_law_sign"] ["_law_word"] (defScope s__law_number) := ⟨rfl, rfl, rfl, by decide +kernel, rfl, by decide +kernel, by decide +kernel⟩
theorem sc__law_list : FnScope ["_law_words", "_law_found", "_law_word"] ["_law_words"] (defScope s__law_list) := ⟨rfl, rfl, rfl, by decide +kernel, rfl, by decide +kernel, by decide +kernel⟩
theorem sc__law_parts : FnScope ["_law_words", "_law_found", "_law_word", "_law_at"] ["_law_words"] (defScope s__law_parts) := ⟨rfl, rfl, rfl, by decide +kernel, rfl, by decide +kernel, by decide +kernel⟩
theorem sc__law_read : FnScope ["_law_due", "_law_parts_here", "_law_words", "_law_found", "_law_low", "_law_high", "_law_sign", "_law_spot"] ["_law_due"] (defScope s__law_read) := ⟨rfl, rfl, rfl, by decide +kernel, rfl, by decide +kernel, by decide +kernel⟩
theorem sc__law_told : FnScope ["_law_thing", "_law_found", "_law_days", "e", "_law_strange", "_law_right_here"] ["_law_thing"] (defScope s__law_told) := ⟨rfl, rfl, rfl, by decide +kernel, rfl, by decide +kernel, by decide +kernel⟩
theorem sc__law_right : FnScope ["_law_thing", "_law_due"] ["_law_thing"] (defScope s__law_right) := ⟨rfl, rfl, rfl, by decide +kernel, rfl, by decide +kernel, by decide +kernel⟩
theorem sc_law : FnScope ["_law_script", "_law_k", "_law_pot_here", "_law_way", "_law_good", "_law_thing", "_law_turn", "_law_odd_here", "_law_one"] ["_law_script"] (defScope s_law) := ⟨rfl, rfl, rfl, by decide +kernel, rfl, by decide +kernel, by decide +kernel⟩
structure Env (K : PySem.W.Frag) (mg : Str → Option Value) : Prop where
  g__wall : mg "_wall" = some (.ref (He.ga K "_wall"))
  g_is_whole : mg "is_whole" = some (.ref (He.ga K "is_whole"))
  g_is_moment : mg "is_moment" = some (.ref (He.ga K "is_moment"))
  g_are_figures : mg "are_figures" = some (.ref (He.ga K "are_figures"))
  g_want_day : mg "want_day" = some (.ref (He.ga K "want_day"))
  g_are_signs : mg "are_signs" = some (.ref (He.ga K "are_signs"))
  g_told_days : mg "told_days" = some (.ref (He.ga K "told_days"))
  g_want_till : mg "want_till" = some (.ref (He.ga K "want_till"))
  g_edges_of : mg "edges_of" = some (.ref (He.ga K "edges_of"))
  g_stretches : mg "stretches" = some (.ref (He.ga K "stretches"))
  g_first_days : mg "first_days" = some (.ref (He.ga K "first_days"))
  g_common_round : mg "common_round" = some (.ref (He.ga K "common_round"))
  g_first_apart : mg "first_apart" = some (.ref (He.ga K "first_apart"))
  g_day_in : mg "day_in" = some (.ref (He.ga K "day_in"))
  g_days_of : mg "days_of" = some (.ref (He.ga K "days_of"))
  g_read_days : mg "read_days" = some (.ref (He.ga K "read_days"))
  g__law_pot : mg "_law_pot" = some (.ref (He.ga K "_law_pot"))
  g__law_take : mg "_law_take" = some (.ref (He.ga K "_law_take"))
  g__law_great : mg "_law_great" = some (.ref (He.ga K "_law_great"))
  g__law_bits : mg "_law_bits" = some (.ref (He.ga K "_law_bits"))
  g__law_near : mg "_law_near" = some (.ref (He.ga K "_law_near"))
  g__law_few : mg "_law_few" = some (.ref (He.ga K "_law_few"))
  g__law_some : mg "_law_some" = some (.ref (He.ga K "_law_some"))
  g__law_written : mg "_law_written" = some (.ref (He.ga K "_law_written"))
  g__law_signs : mg "_law_signs" = some (.ref (He.ga K "_law_signs"))
  g__law_signs_spoilt : mg "_law_signs_spoilt" = some (.ref (He.ga K "_law_signs_spoilt"))
  g__law_spoilt : mg "_law_spoilt" = some (.ref (He.ga K "_law_spoilt"))
  g__law_odd : mg "_law_odd" = some (.ref (He.ga K "_law_odd"))
  g__law_number : mg "_law_number" = some (.ref (He.ga K "_law_number"))
  g__law_list : mg "_law_list" = some (.ref (He.ga K "_law_list"))
  g__law_parts : mg "_law_parts" = some (.ref (He.ga K "_law_parts"))
  g__law_read : mg "_law_read" = some (.ref (He.ga K "_law_read"))
  g__law_told : mg "_law_told" = some (.ref (He.ga K "_law_told"))
  g__law_right : mg "_law_right" = some (.ref (He.ga K "_law_right"))
  g_law : mg "law" = some (.ref (He.ga K "law"))
  v_FIGURES : ∃ u, mg "FIGURES" = some u ∧ RelV (.str "0123456789") u
  v_MOST_SIGNS : ∃ u, mg "MOST_SIGNS" = some u ∧ RelV (.int (7)) u
  v_NOUGHT : ∃ u, mg "NOUGHT" = some u ∧ RelV (.str "0") u
  v_ONE : ∃ u, mg "ONE" = some u ∧ RelV (.str "1") u
  v_MOST_DAYS : ∃ u, mg "MOST_DAYS" = some u ∧ RelV (.int (8)) u
  v_FROM : ∃ u, mg "FROM" = some u ∧ RelV (.str "from") u
  v_TO : ∃ u, mg "TO" = some u ∧ RelV (.str "to") u
  v_NOT : ∃ u, mg "NOT" = some u ∧ RelV (.str "not") u
  v_ALSO : ∃ u, mg "ALSO" = some u ∧ RelV (.str "also") u
  n_ValueError : mg "ValueError" = none
  n_all : mg "all" = none
  n_any : mg "any" = none
  n_bool : mg "bool" = none
  n_divmod : mg "divmod" = none
  n_int : mg "int" = none
  n_isinstance : mg "isinstance" = none
  n_len : mg "len" = none
  n_list : mg "list" = none
  n_max : mg "max" = none
  n_min : mg "min" = none
  n_range : mg "range" = none
  n_repr : mg "repr" = none
  n_reversed : mg "reversed" = none
  n_set : mg "set" = none
  n_sorted : mg "sorted" = none
  n_str : mg "str" = none
  n_tuple : mg "tuple" = none
  n_zip : mg "zip" = none
  g_GoingError : mg "GoingError" = some (.ref (He.ga K "GoingError"))
  x_GoingError : Exo K (He.ga K "GoingError") bmV "ValueError.__new__"
  g_LackError : mg "LackError" = some (.ref (He.ga K "LackError"))
  x_LackError : Exo K (He.ga K "LackError") bmL "LookupError.__new__"
  g_BookError : mg "BookError" = some (.ref (He.ga K "BookError"))
  x_BookError : Exo K (He.ga K "BookError") bmR "RuntimeError.__new__"
  g_NoTime : mg "NoTime" = some (.ref (He.ga K "NoTime"))
  x_NoTime : Exo K (He.ga K "NoTime") bmV "ValueError.__new__"
  g_NoPiece : mg "NoPiece" = some (.ref (He.ga K "NoPiece"))
  x_NoPiece : Exo K (He.ga K "NoPiece") bmV "ValueError.__new__"
  g_NoDays : mg "NoDays" = some (.ref (He.ga K "NoDays"))
  x_NoDays : Exo K (He.ga K "NoDays") bmV "ValueError.__new__"
  g_NoCard : mg "NoCard" = some (.ref (He.ga K "NoCard"))
  x_NoCard : Exo K (He.ga K "NoCard") bmV "ValueError.__new__"
  g_NoName : mg "NoName" = some (.ref (He.ga K "NoName"))
  x_NoName : Exo K (He.ga K "NoName") bmV "ValueError.__new__"
  g_NoRow : mg "NoRow" = some (.ref (He.ga K "NoRow"))
  x_NoRow : Exo K (He.ga K "NoRow") bmV "ValueError.__new__"
  g_NoText : mg "NoText" = some (.ref (He.ga K "NoText"))
  g_Ring : mg "Ring" = some (.ref (He.ga K "Ring"))
  g_Days : mg "Days" = some (.ref (He.ga K "Days"))
  sys : SysK K
  c_Ring : Cls K (He.ga K "Ring")
  i_Ring : InsC K (He.ga K "Ring")
  a_Ring_bits : NoAttr K (He.ga K "Ring") "bits"
  m_Ring_init : Meth K (He.ga K "Ring") "__init__" (He.ma K (He.ga K "Ring") "__init__")
  m_Ring_eq : Meth K (He.ga K "Ring") "__eq__" (He.ma K (He.ga K "Ring") "__eq__")
  m_Ring_len : Meth K (He.ga K "Ring") "__len__" (He.ma K (He.ga K "Ring") "__len__")
  m_Ring_str : Meth K (He.ga K "Ring") "__str__" (He.ma K (He.ga K "Ring") "__str__")
  m_Ring_repr : Meth K (He.ga K "Ring") "__repr__" (He.ma K (He.ga K "Ring") "__repr__")
  m_Ring_rings : Meth K (He.ga K "Ring") "rings" (He.ma K (He.ga K "Ring") "rings")
  m_Ring_least : Meth K (He.ga K "Ring") "least" (He.ma K (He.ga K "Ring") "least")
  mk_Ring : Mk K (He.ga K "Ring") (He.ma K (He.ga K "Ring") "__init__")
  nb_Ring : NoBase K (He.ga K "Ring")
  kit_Ring_Ring : PySem.W.kitOne K (.ref (He.ga K "Ring")) (.ref (He.ga K "Ring")) = some true
  kit_Ring_Days : PySem.W.kitOne K (.ref (He.ga K "Ring")) (.ref (He.ga K "Days")) = some false
  kit_Ring_int : PySem.W.kitOne K (.ref (He.ga K "Ring")) (.type "int") = some false
  kit_Ring_bool : PySem.W.kitOne K (.ref (He.ga K "Ring")) (.type "bool") = some false
  kit_Ring_str : PySem.W.kitOne K (.ref (He.ga K "Ring")) (.type "str") = some false
  kit_Ring_list : PySem.W.kitOne K (.ref (He.ga K "Ring")) (.type "list") = some false
  kit_Ring_tuple : PySem.W.kitOne K (.ref (He.ga K "Ring")) (.type "tuple") = some false
  kit_Ring_ValueError : PySem.W.kitOne K (.ref (He.ga K "Ring")) (.type "ValueError") = some false
  c_Days : Cls K (He.ga K "Days")
  i_Days : InsC K (He.ga K "Days")
  a_Days_ring : NoAttr K (He.ga K "Days") "ring"
  a_Days_since : NoAttr K (He.ga K "Days") "since"
  a_Days_till : NoAttr K (He.ga K "Days") "till"
  a_Days_out : NoAttr K (He.ga K "Days") "out"
  a_Days_also : NoAttr K (He.ga K "Days") "also"
  m_Days_init : Meth K (He.ga K "Days") "__init__" (He.ma K (He.ga K "Days") "__init__")
  m_Days_eq : Meth K (He.ga K "Days") "__eq__" (He.ma K (He.ga K "Days") "__eq__")
  m_Days_str : Meth K (He.ga K "Days") "__str__" (He.ma K (He.ga K "Days") "__str__")
  m_Days_repr : Meth K (He.ga K "Days") "__repr__" (He.ma K (He.ga K "Days") "__repr__")
  m_Days_has : Meth K (He.ga K "Days") "has" (He.ma K (He.ga K "Days") "has")
  m_Days_first_from : Meth K (He.ga K "Days") "first_from" (He.ma K (He.ga K "Days") "first_from")
  m_Days_how_many : Meth K (He.ga K "Days") "how_many" (He.ma K (He.ga K "Days") "how_many")
  m_Days_among : Meth K (He.ga K "Days") "among" (He.ma K (He.ga K "Days") "among")
  mk_Days : Mk K (He.ga K "Days") (He.ma K (He.ga K "Days") "__init__")
  nb_Days : NoBase K (He.ga K "Days")
  kit_Days_Ring : PySem.W.kitOne K (.ref (He.ga K "Days")) (.ref (He.ga K "Ring")) = some false
  kit_Days_Days : PySem.W.kitOne K (.ref (He.ga K "Days")) (.ref (He.ga K "Days")) = some true
  kit_Days_int : PySem.W.kitOne K (.ref (He.ga K "Days")) (.type "int") = some false
  kit_Days_bool : PySem.W.kitOne K (.ref (He.ga K "Days")) (.type "bool") = some false
  kit_Days_str : PySem.W.kitOne K (.ref (He.ga K "Days")) (.type "str") = some false
  kit_Days_list : PySem.W.kitOne K (.ref (He.ga K "Days")) (.type "list") = some false
  kit_Days_tuple : PySem.W.kitOne K (.ref (He.ga K "Days")) (.type "tuple") = some false
  kit_Days_ValueError : PySem.W.kitOne K (.ref (He.ga K "Days")) (.type "ValueError") = some false
  kit_int_Ring : PySem.W.kitOne K (.type "int") (.ref (He.ga K "Ring")) = some false
  kit_bool_Ring : PySem.W.kitOne K (.type "bool") (.ref (He.ga K "Ring")) = some false
  kit_str_Ring : PySem.W.kitOne K (.type "str") (.ref (He.ga K "Ring")) = some false
  kit_NoneType_Ring : PySem.W.kitOne K (.type "NoneType") (.ref (He.ga K "Ring")) = some false
  kit_list_Ring : PySem.W.kitOne K (.type "list") (.ref (He.ga K "Ring")) = some false
  kit_tuple_Ring : PySem.W.kitOne K (.type "tuple") (.ref (He.ga K "Ring")) = some false
  kit_dict_Ring : PySem.W.kitOne K (.type "dict") (.ref (He.ga K "Ring")) = some false
  kit_int_Days : PySem.W.kitOne K (.type "int") (.ref (He.ga K "Days")) = some false
  kit_bool_Days : PySem.W.kitOne K (.type "bool") (.ref (He.ga K "Days")) = some false
  kit_str_Days : PySem.W.kitOne K (.type "str") (.ref (He.ga K "Days")) = some false
  kit_NoneType_Days : PySem.W.kitOne K (.type "NoneType") (.ref (He.ga K "Days")) = some false
  kit_list_Days : PySem.W.kitOne K (.type "list") (.ref (He.ga K "Days")) = some false
  kit_tuple_Days : PySem.W.kitOne K (.type "tuple") (.ref (He.ga K "Days")) = some false
  kit_dict_Days : PySem.W.kitOne K (.type "dict") (.ref (He.ga K "Days")) = some false
  xc_NoDays : ExcC K (He.ga K "NoDays")
  kit_NoDays_GoingError : PySem.W.kitOne K (.ref (He.ga K "NoDays")) (.ref (He.ga K "GoingError")) = some true
  kit_NoDays_LackError : PySem.W.kitOne K (.ref (He.ga K "NoDays")) (.ref (He.ga K "LackError")) = some false
  kit_NoDays_BookError : PySem.W.kitOne K (.ref (He.ga K "NoDays")) (.ref (He.ga K "BookError")) = some false
  kit_NoDays_NoTime : PySem.W.kitOne K (.ref (He.ga K "NoDays")) (.ref (He.ga K "NoTime")) = some false
  kit_NoDays_NoPiece : PySem.W.kitOne K (.ref (He.ga K "NoDays")) (.ref (He.ga K "NoPiece")) = some false
  kit_NoDays_NoDays : PySem.W.kitOne K (.ref (He.ga K "NoDays")) (.ref (He.ga K "NoDays")) = some true
  kit_NoDays_NoCard : PySem.W.kitOne K (.ref (He.ga K "NoDays")) (.ref (He.ga K "NoCard")) = some false
  kit_NoDays_NoName : PySem.W.kitOne K (.ref (He.ga K "NoDays")) (.ref (He.ga K "NoName")) = some false
  kit_NoDays_NoRow : PySem.W.kitOne K (.ref (He.ga K "NoDays")) (.ref (He.ga K "NoRow")) = some false
  kit_NoDays_NoText : PySem.W.kitOne K (.ref (He.ga K "NoDays")) (.ref (He.ga K "NoText")) = some false
  kit_NoDays_ValueError : PySem.W.kitOne K (.ref (He.ga K "NoDays")) (.type "ValueError") = some true
  kit_NoDays_LookupError : PySem.W.kitOne K (.ref (He.ga K "NoDays")) (.type "LookupError") = some false
  kit_NoDays_RuntimeError : PySem.W.kitOne K (.ref (He.ga K "NoDays")) (.type "RuntimeError") = some false
  exm_NoDays : PySem.W.exmAny K (.ref (He.ga K "NoDays")) [.ref (He.ga K "GoingError"), .ref (He.ga K "LackError"), .ref (He.ga K "BookError")] = some true
  f__wall : ∃ fd, FunD K "_wall" "_wall" (defArgs s__wall) (defBody s__wall) (defScope s__wall) [] [] (He.ga K "_wall") fd
  f_NoText_init : ∃ fd, FunD K "__init__" "NoText.__init__" (defArgs s_NoText_init) (defBody s_NoText_init) (defScope s_NoText_init) [] [] (He.ma K (He.ga K "NoText") "__init__") fd
  f_is_whole : ∃ fd, FunD K "is_whole" "is_whole" (defArgs s_is_whole) (defBody s_is_whole) (defScope s_is_whole) [] [] (He.ga K "is_whole") fd
  f_is_moment : ∃ fd, FunD K "is_moment" "is_moment" (defArgs s_is_moment) (defBody s_is_moment) (defScope s_is_moment) [] [] (He.ga K "is_moment") fd
  f_are_figures : ∃ fd, FunD K "are_figures" "are_figures" (defArgs s_are_figures) (defBody s_are_figures) (defScope s_are_figures) [] [] (He.ga K "are_figures") fd
  f_want_day : ∃ fd, FunD K "want_day" "want_day" (defArgs s_want_day) (defBody s_want_day) (defScope s_want_day) [] [] (He.ga K "want_day") fd
  f_are_signs : ∃ fd, FunD K "are_signs" "are_signs" (defArgs s_are_signs) (defBody s_are_signs) (defScope s_are_signs) [] [] (He.ga K "are_signs") fd
  f_Ring_init : ∃ fd, FunD K "__init__" "Ring.__init__" (defArgs s_Ring_init) (defBody s_Ring_init) (defScope s_Ring_init) [] [] (He.ma K (He.ga K "Ring") "__init__") fd
  f_Ring_eq : ∃ fd, FunD K "__eq__" "Ring.__eq__" (defArgs s_Ring_eq) (defBody s_Ring_eq) (defScope s_Ring_eq) [] [] (He.ma K (He.ga K "Ring") "__eq__") fd
  f_Ring_len : ∃ fd, FunD K "__len__" "Ring.__len__" (defArgs s_Ring_len) (defBody s_Ring_len) (defScope s_Ring_len) [] [] (He.ma K (He.ga K "Ring") "__len__") fd
  f_Ring_str : ∃ fd, FunD K "__str__" "Ring.__str__" (defArgs s_Ring_str) (defBody s_Ring_str) (defScope s_Ring_str) [] [] (He.ma K (He.ga K "Ring") "__str__") fd
  f_Ring_repr : ∃ fd, FunD K "__repr__" "Ring.__repr__" (defArgs s_Ring_repr) (defBody s_Ring_repr) (defScope s_Ring_repr) [] [] (He.ma K (He.ga K "Ring") "__repr__") fd
  f_Ring_rings : ∃ fd, FunD K "rings" "Ring.rings" (defArgs s_Ring_rings) (defBody s_Ring_rings) (defScope s_Ring_rings) [] [] (He.ma K (He.ga K "Ring") "rings") fd
  f_Ring_least : ∃ fd, FunD K "least" "Ring.least" (defArgs s_Ring_least) (defBody s_Ring_least) (defScope s_Ring_least) [] [] (He.ma K (He.ga K "Ring") "least") fd
  f_told_days : ∃ fd, FunD K "told_days" "told_days" (defArgs s_told_days) (defBody s_told_days) (defScope s_told_days) [] [] (He.ga K "told_days") fd
  f_want_till : ∃ fd, FunD K "want_till" "want_till" (defArgs s_want_till) (defBody s_want_till) (defScope s_want_till) [] [] (He.ga K "want_till") fd
  f_Days_init : ∃ fd, FunD K "__init__" "Days.__init__" (defArgs s_Days_init) (defBody s_Days_init) (defScope s_Days_init) [.int (0), .non, .non, .non] [] (He.ma K (He.ga K "Days") "__init__") fd
  f_Days_eq : ∃ fd, FunD K "__eq__" "Days.__eq__" (defArgs s_Days_eq) (defBody s_Days_eq) (defScope s_Days_eq) [] [] (He.ma K (He.ga K "Days") "__eq__") fd
  f_Days_str : ∃ fd, FunD K "__str__" "Days.__str__" (defArgs s_Days_str) (defBody s_Days_str) (defScope s_Days_str) [] [] (He.ma K (He.ga K "Days") "__str__") fd
  f_Days_repr : ∃ fd, FunD K "__repr__" "Days.__repr__" (defArgs s_Days_repr) (defBody s_Days_repr) (defScope s_Days_repr) [] [] (He.ma K (He.ga K "Days") "__repr__") fd
  f_Days_has : ∃ fd, FunD K "has" "Days.has" (defArgs s_Days_has) (defBody s_Days_has) (defScope s_Days_has) [] [] (He.ma K (He.ga K "Days") "has") fd
  f_Days_first_from : ∃ fd, FunD K "first_from" "Days.first_from" (defArgs s_Days_first_from) (defBody s_Days_first_from) (defScope s_Days_first_from) [] [] (He.ma K (He.ga K "Days") "first_from") fd
  f_Days_how_many : ∃ fd, FunD K "how_many" "Days.how_many" (defArgs s_Days_how_many) (defBody s_Days_how_many) (defScope s_Days_how_many) [] [] (He.ma K (He.ga K "Days") "how_many") fd
  f_Days_among : ∃ fd, FunD K "among" "Days.among" (defArgs s_Days_among) (defBody s_Days_among) (defScope s_Days_among) [] [] (He.ma K (He.ga K "Days") "among") fd
  f_edges_of : ∃ fd, FunD K "edges_of" "edges_of" (defArgs s_edges_of) (defBody s_edges_of) (defScope s_edges_of) [] [] (He.ga K "edges_of") fd
  f_stretches : ∃ fd, FunD K "stretches" "stretches" (defArgs s_stretches) (defBody s_stretches) (defScope s_stretches) [] [] (He.ga K "stretches") fd
  f_first_days : ∃ fd, FunD K "first_days" "first_days" (defArgs s_first_days) (defBody s_first_days) (defScope s_first_days) [] [] (He.ga K "first_days") fd
  f_common_round : ∃ fd, FunD K "common_round" "common_round" (defArgs s_common_round) (defBody s_common_round) (defScope s_common_round) [] [] (He.ga K "common_round") fd
  f_first_apart : ∃ fd, FunD K "first_apart" "first_apart" (defArgs s_first_apart) (defBody s_first_apart) (defScope s_first_apart) [] [] (He.ga K "first_apart") fd
  f_day_in : ∃ fd, FunD K "day_in" "day_in" (defArgs s_day_in) (defBody s_day_in) (defScope s_day_in) [] [] (He.ga K "day_in") fd
  f_days_of : ∃ fd, FunD K "days_of" "days_of" (defArgs s_days_of) (defBody s_days_of) (defScope s_days_of) [] [] (He.ga K "days_of") fd
  f_read_days : ∃ fd, FunD K "read_days" "read_days" (defArgs s_read_days) (defBody s_read_days) (defScope s_read_days) [] [] (He.ga K "read_days") fd
  f__law_pot : ∃ fd, FunD K "_law_pot" "_law_pot" (defArgs s__law_pot) (defBody s__law_pot) (defScope s__law_pot) [] [] (He.ga K "_law_pot") fd
  f__law_take : ∃ fd, FunD K "_law_take" "_law_take" (defArgs s__law_take) (defBody s__law_take) (defScope s__law_take) [] [] (He.ga K "_law_take") fd
  f__law_great : ∃ fd, FunD K "_law_great" "_law_great" (defArgs s__law_great) (defBody s__law_great) (defScope s__law_great) [] [] (He.ga K "_law_great") fd
  f__law_bits : ∃ fd, FunD K "_law_bits" "_law_bits" (defArgs s__law_bits) (defBody s__law_bits) (defScope s__law_bits) [] [] (He.ga K "_law_bits") fd
  f__law_near : ∃ fd, FunD K "_law_near" "_law_near" (defArgs s__law_near) (defBody s__law_near) (defScope s__law_near) [] [] (He.ga K "_law_near") fd
  f__law_few : ∃ fd, FunD K "_law_few" "_law_few" (defArgs s__law_few) (defBody s__law_few) (defScope s__law_few) [] [] (He.ga K "_law_few") fd
  f__law_some : ∃ fd, FunD K "_law_some" "_law_some" (defArgs s__law_some) (defBody s__law_some) (defScope s__law_some) [] [] (He.ga K "_law_some") fd
  f__law_written : ∃ fd, FunD K "_law_written" "_law_written" (defArgs s__law_written) (defBody s__law_written) (defScope s__law_written) [] [] (He.ga K "_law_written") fd
  f__law_signs : ∃ fd, FunD K "_law_signs" "_law_signs" (defArgs s__law_signs) (defBody s__law_signs) (defScope s__law_signs) [] [] (He.ga K "_law_signs") fd
  f__law_signs_spoilt : ∃ fd, FunD K "_law_signs_spoilt" "_law_signs_spoilt" (defArgs s__law_signs_spoilt) (defBody s__law_signs_spoilt) (defScope s__law_signs_spoilt) [] [] (He.ga K "_law_signs_spoilt") fd
  f__law_spoilt : ∃ fd, FunD K "_law_spoilt" "_law_spoilt" (defArgs s__law_spoilt) (defBody s__law_spoilt) (defScope s__law_spoilt) [] [] (He.ga K "_law_spoilt") fd
  f__law_odd : ∃ fd, FunD K "_law_odd" "_law_odd" (defArgs s__law_odd) (defBody s__law_odd) (defScope s__law_odd) [] [] (He.ga K "_law_odd") fd
  f__law_number : ∃ fd, FunD K "_law_number" "_law_number" (defArgs s__law_number) (defBody s__law_number) (defScope s__law_number) [] [] (He.ga K "_law_number") fd
  f__law_list : ∃ fd, FunD K "_law_list" "_law_list" (defArgs s__law_list) (defBody s__law_list) (defScope s__law_list) [] [] (He.ga K "_law_list") fd
  f__law_parts : ∃ fd, FunD K "_law_parts" "_law_parts" (defArgs s__law_parts) (defBody s__law_parts) (defScope s__law_parts) [] [] (He.ga K "_law_parts") fd
  f__law_read : ∃ fd, FunD K "_law_read" "_law_read" (defArgs s__law_read) (defBody s__law_read) (defScope s__law_read) [] [] (He.ga K "_law_read") fd
  f__law_told : ∃ fd, FunD K "_law_told" "_law_told" (defArgs s__law_told) (defBody s__law_told) (defScope s__law_told) [] [] (He.ga K "_law_told") fd
  f__law_right : ∃ fd, FunD K "_law_right" "_law_right" (defArgs s__law_right) (defBody s__law_right) (defScope s__law_right) [] [] (He.ga K "_law_right") fd
  f_law : ∃ fd, FunD K "law" "law" (defArgs s_law) (defBody s_law) (defScope s_law) [] [] (He.ga K "law") fd
end Toy
namespace Toy
open PySem PySem.Spec PyProof.Rows L2 L3
theorem Env.k__wall {K : PySem.W.Frag} {mg : Str → Option Value} (T : Env K mg) : PySem.W.keepIn K (.ref (He.ga K "_wall")) = true := let ⟨_, F⟩ := T.f__wall; F.kp
theorem Env.k_NoText_init {K : PySem.W.Frag} {mg : Str → Option Value} (T : Env K mg) : PySem.W.keepIn K (.ref (He.ma K (He.ga K "NoText") "__init__")) = true := let ⟨_, F⟩ := T.f_NoText_init; F.kp
theorem Env.k_is_whole {K : PySem.W.Frag} {mg : Str → Option Value} (T : Env K mg) : PySem.W.keepIn K (.ref (He.ga K "is_whole")) = true := let ⟨_, F⟩ := T.f_is_whole; F.kp
theorem Env.k_is_moment {K : PySem.W.Frag} {mg : Str → Option Value} (T : Env K mg) : PySem.W.keepIn K (.ref (He.ga K "is_moment")) = true := let ⟨_, F⟩ := T.f_is_moment; F.kp
theorem Env.k_are_figures {K : PySem.W.Frag} {mg : Str → Option Value} (T : Env K mg) : PySem.W.keepIn K (.ref (He.ga K "are_figures")) = true := let ⟨_, F⟩ := T.f_are_figures; F.kp
theorem Env.k_want_day {K : PySem.W.Frag} {mg : Str → Option Value} (T : Env K mg) : PySem.W.keepIn K (.ref (He.ga K "want_day")) = true := let ⟨_, F⟩ := T.f_want_day; F.kp
theorem Env.k_are_signs {K : PySem.W.Frag} {mg : Str → Option Value} (T : Env K mg) : PySem.W.keepIn K (.ref (He.ga K "are_signs")) = true := let ⟨_, F⟩ := T.f_are_signs; F.kp
theorem Env.k_Ring_init {K : PySem.W.Frag} {mg : Str → Option Value} (T : Env K mg) : PySem.W.keepIn K (.ref (He.ma K (He.ga K "Ring") "__init__")) = true := let ⟨_, F⟩ := T.f_Ring_init; F.kp
theorem Env.k_Ring_eq {K : PySem.W.Frag} {mg : Str → Option Value} (T : Env K mg) : PySem.W.keepIn K (.ref (He.ma K (He.ga K "Ring") "__eq__")) = true := let ⟨_, F⟩ := T.f_Ring_eq; F.kp
theorem Env.k_Ring_len {K : PySem.W.Frag} {mg : Str → Option Value} (T : Env K mg) : PySem.W.keepIn K (.ref (He.ma K (He.ga K "Ring") "__len__")) = true := let ⟨_, F⟩ := T.f_Ring_len; F.kp
theorem Env.k_Ring_str {K : PySem.W.Frag} {mg : Str → Option Value} (T : Env K mg) : PySem.W.keepIn K (.ref (He.ma K (He.ga K "Ring") "__str__")) = true := let ⟨_, F⟩ := T.f_Ring_str; F.kp
theorem Env.k_Ring_repr {K : PySem.W.Frag} {mg : Str → Option Value} (T : Env K mg) : PySem.W.keepIn K (.ref (He.ma K (He.ga K "Ring") "__repr__")) = true := let ⟨_, F⟩ := T.f_Ring_repr; F.kp
theorem Env.k_Ring_rings {K : PySem.W.Frag} {mg : Str → Option Value} (T : Env K mg) : PySem.W.keepIn K (.ref (He.ma K (He.ga K "Ring") "rings")) = true := let ⟨_, F⟩ := T.f_Ring_rings; F.kp
theorem Env.k_Ring_least {K : PySem.W.Frag} {mg : Str → Option Value} (T : Env K mg) : PySem.W.keepIn K (.ref (He.ma K (He.ga K "Ring") "least")) = true := let ⟨_, F⟩ := T.f_Ring_least; F.kp
theorem Env.k_told_days {K : PySem.W.Frag} {mg : Str → Option Value} (T : Env K mg) : PySem.W.keepIn K (.ref (He.ga K "told_days")) = true := let ⟨_, F⟩ := T.f_told_days; F.kp
theorem Env.k_want_till {K : PySem.W.Frag} {mg : Str → Option Value} (T : Env K mg) : PySem.W.keepIn K (.ref (He.ga K "want_till")) = true := let ⟨_, F⟩ := T.f_want_till; F.kp
theorem Env.k_Days_init {K : PySem.W.Frag} {mg : Str → Option Value} (T : Env K mg) : PySem.W.keepIn K (.ref (He.ma K (He.ga K "Days") "__init__")) = true := let ⟨_, F⟩ := T.f_Days_init; F.kp
theorem Env.k_Days_eq {K : PySem.W.Frag} {mg : Str → Option Value} (T : Env K mg) : PySem.W.keepIn K (.ref (He.ma K (He.ga K "Days") "__eq__")) = true := let ⟨_, F⟩ := T.f_Days_eq; F.kp
theorem Env.k_Days_str {K : PySem.W.Frag} {mg : Str → Option Value} (T : Env K mg) : PySem.W.keepIn K (.ref (He.ma K (He.ga K "Days") "__str__")) = true := let ⟨_, F⟩ := T.f_Days_str; F.kp
theorem Env.k_Days_repr {K : PySem.W.Frag} {mg : Str → Option Value} (T : Env K mg) : PySem.W.keepIn K (.ref (He.ma K (He.ga K "Days") "__repr__")) = true := let ⟨_, F⟩ := T.f_Days_repr; F.kp
theorem Env.k_Days_has {K : PySem.W.Frag} {mg : Str → Option Value} (T : Env K mg) : PySem.W.keepIn K (.ref (He.ma K (He.ga K "Days") "has")) = true := let ⟨_, F⟩ := T.f_Days_has; F.kp
theorem Env.k_Days_first_from {K : PySem.W.Frag} {mg : Str → Option Value} (T : Env K mg) : PySem.W.keepIn K (.ref (He.ma K (He.ga K "Days") "first_from")) = true := let ⟨_, F⟩ := T.f_Days_first_from; F.kp
theorem Env.k_Days_how_many {K : PySem.W.Frag} {mg : Str → Option Value} (T : Env K mg) : PySem.W.keepIn K (.ref (He.ma K (He.ga K "Days") "how_many")) = true := let ⟨_, F⟩ := T.f_Days_how_many; F.kp
theorem Env.k_Days_among {K : PySem.W.Frag} {mg : Str → Option Value} (T : Env K mg) : PySem.W.keepIn K (.ref (He.ma K (He.ga K "Days") "among")) = true := let ⟨_, F⟩ := T.f_Days_among; F.kp
theorem Env.k_edges_of {K : PySem.W.Frag} {mg : Str → Option Value} (T : Env K mg) : PySem.W.keepIn K (.ref (He.ga K "edges_of")) = true := let ⟨_, F⟩ := T.f_edges_of; F.kp
theorem Env.k_stretches {K : PySem.W.Frag} {mg : Str → Option Value} (T : Env K mg) : PySem.W.keepIn K (.ref (He.ga K "stretches")) = true := let ⟨_, F⟩ := T.f_stretches; F.kp
theorem Env.k_first_days {K : PySem.W.Frag} {mg : Str → Option Value} (T : Env K mg) : PySem.W.keepIn K (.ref (He.ga K "first_days")) = true := let ⟨_, F⟩ := T.f_first_days; F.kp
theorem Env.k_common_round {K : PySem.W.Frag} {mg : Str → Option Value} (T : Env K mg) : PySem.W.keepIn K (.ref (He.ga K "common_round")) = true := let ⟨_, F⟩ := T.f_common_round; F.kp
theorem Env.k_first_apart {K : PySem.W.Frag} {mg : Str → Option Value} (T : Env K mg) : PySem.W.keepIn K (.ref (He.ga K "first_apart")) = true := let ⟨_, F⟩ := T.f_first_apart; F.kp
theorem Env.k_day_in {K : PySem.W.Frag} {mg : Str → Option Value} (T : Env K mg) : PySem.W.keepIn K (.ref (He.ga K "day_in")) = true := let ⟨_, F⟩ := T.f_day_in; F.kp
theorem Env.k_days_of {K : PySem.W.Frag} {mg : Str → Option Value} (T : Env K mg) : PySem.W.keepIn K (.ref (He.ga K "days_of")) = true := let ⟨_, F⟩ := T.f_days_of; F.kp
theorem Env.k_read_days {K : PySem.W.Frag} {mg : Str → Option Value} (T : Env K mg) : PySem.W.keepIn K (.ref (He.ga K "read_days")) = true := let ⟨_, F⟩ := T.f_read_days; F.kp
theorem Env.k__law_pot {K : PySem.W.Frag} {mg : Str → Option Value} (T : Env K mg) : PySem.W.keepIn K (.ref (He.ga K "_law_pot")) = true := let ⟨_, F⟩ := T.f__law_pot; F.kp
theorem Env.k__law_take {K : PySem.W.Frag} {mg : Str → Option Value} (T : Env K mg) : PySem.W.keepIn K (.ref (He.ga K "_law_take")) = true := let ⟨_, F⟩ := T.f__law_take; F.kp
theorem Env.k__law_great {K : PySem.W.Frag} {mg : Str → Option Value} (T : Env K mg) : PySem.W.keepIn K (.ref (He.ga K "_law_great")) = true := let ⟨_, F⟩ := T.f__law_great; F.kp
theorem Env.k__law_bits {K : PySem.W.Frag} {mg : Str → Option Value} (T : Env K mg) : PySem.W.keepIn K (.ref (He.ga K "_law_bits")) = true := let ⟨_, F⟩ := T.f__law_bits; F.kp
theorem Env.k__law_near {K : PySem.W.Frag} {mg : Str → Option Value} (T : Env K mg) : PySem.W.keepIn K (.ref (He.ga K "_law_near")) = true := let ⟨_, F⟩ := T.f__law_near; F.kp
theorem Env.k__law_few {K : PySem.W.Frag} {mg : Str → Option Value} (T : Env K mg) : PySem.W.keepIn K (.ref (He.ga K "_law_few")) = true := let ⟨_, F⟩ := T.f__law_few; F.kp
theorem Env.k__law_some {K : PySem.W.Frag} {mg : Str → Option Value} (T : Env K mg) : PySem.W.keepIn K (.ref (He.ga K "_law_some")) = true := let ⟨_, F⟩ := T.f__law_some; F.kp
theorem Env.k__law_written {K : PySem.W.Frag} {mg : Str → Option Value} (T : Env K mg) : PySem.W.keepIn K (.ref (He.ga K "_law_written")) = true := let ⟨_, F⟩ := T.f__law_written; F.kp
theorem Env.k__law_signs {K : PySem.W.Frag} {mg : Str → Option Value} (T : Env K mg) : PySem.W.keepIn K (.ref (He.ga K "_law_signs")) = true := let ⟨_, F⟩ := T.f__law_signs; F.kp
theorem Env.k__law_signs_spoilt {K : PySem.W.Frag} {mg : Str → Option Value} (T : Env K mg) : PySem.W.keepIn K (.ref (He.ga K "_law_signs_spoilt")) = true := let ⟨_, F⟩ := T.f__law_signs_spoilt; F.kp
theorem Env.k__law_spoilt {K : PySem.W.Frag} {mg : Str → Option Value} (T : Env K mg) : PySem.W.keepIn K (.ref (He.ga K "_law_spoilt")) = true := let ⟨_, F⟩ := T.f__law_spoilt; F.kp
theorem Env.k__law_odd {K : PySem.W.Frag} {mg : Str → Option Value} (T : Env K mg) : PySem.W.keepIn K (.ref (He.ga K "_law_odd")) = true := let ⟨_, F⟩ := T.f__law_odd; F.kp
theorem Env.k__law_number {K : PySem.W.Frag} {mg : Str → Option Value} (T : Env K mg) : PySem.W.keepIn K (.ref (He.ga K "_law_number")) = true := let ⟨_, F⟩ := T.f__law_number; F.kp
theorem Env.k__law_list {K : PySem.W.Frag} {mg : Str → Option Value} (T : Env K mg) : PySem.W.keepIn K (.ref (He.ga K "_law_list")) = true := let ⟨_, F⟩ := T.f__law_list; F.kp
theorem Env.k__law_parts {K : PySem.W.Frag} {mg : Str → Option Value} (T : Env K mg) : PySem.W.keepIn K (.ref (He.ga K "_law_parts")) = true := let ⟨_, F⟩ := T.f__law_parts; F.kp
theorem Env.k__law_read {K : PySem.W.Frag} {mg : Str → Option Value} (T : Env K mg) : PySem.W.keepIn K (.ref (He.ga K "_law_read")) = true := let ⟨_, F⟩ := T.f__law_read; F.kp
theorem Env.k__law_told {K : PySem.W.Frag} {mg : Str → Option Value} (T : Env K mg) : PySem.W.keepIn K (.ref (He.ga K "_law_told")) = true := let ⟨_, F⟩ := T.f__law_told; F.kp
theorem Env.k__law_right {K : PySem.W.Frag} {mg : Str → Option Value} (T : Env K mg) : PySem.W.keepIn K (.ref (He.ga K "_law_right")) = true := let ⟨_, F⟩ := T.f__law_right; F.kp
theorem Env.k_law {K : PySem.W.Frag} {mg : Str → Option Value} (T : Env K mg) : PySem.W.keepIn K (.ref (He.ga K "law")) = true := let ⟨_, F⟩ := T.f_law; F.kp
section
def sp_is_whole (K : PySem.W.Frag) : Sp := fun vs H Q _ => ∃ x, vs = [x] ∧ Cl K H x ∧ Q (.bl (isW x)) H
theorem fb_is_whole {P : Program} {w : World} {K : PySem.W.Frag} {mg : Str → Option Value} {base : Heap} (T : Env K mg) : ∃ fd, FunD K "is_whole" "is_whole" (defArgs s_is_whole) (defBody s_is_whole) (defScope s_is_whole) [] [] (He.ga K "is_whole") fd ∧ Fb P w K mg base 1 (He.ga K "is_whole") fd ["thing"] (sp_is_whole K) := by
  obtain ⟨fd, F⟩ := T.f_is_whole
  refine ⟨fd, F, fb_of F sc_is_whole (fun vs H Q E h => ?_) (fun cdv A outer s H vs Q E hr h => ?_)⟩
  · obtain ⟨x, rfl, _⟩ := h
    rfl
  · obtain ⟨x, rfl, ⟨t, b, c, ty, h1, h2, e⟩, q⟩ := h
    refine ⟨_, (pss_one (ps_ret (pe_and (pe_callB call_isi (by rfl) T.n_isinstance (by decide +kernel) (pa_cons (pv 0) (pa_cons (pe_bltn (v := .ty "int") (by rfl) T.n_int (by decide +kernel) rfl) pa_nil))) (pe_one (pe_not (pe_callB call_isi (by rfl) T.n_isinstance (by decide +kernel) (pa_cons (pv 0) (pa_cons (pe_bltn (v := .ty "bool") (by rfl) T.n_bool (by decide +kernel) rfl) pa_nil)))))))), ?_⟩
    refine ⟨x, rfl, x, .ty "int", t, _, b, rfl, .ty "int", ty, h1, b, rfl, ?_⟩
    rw [e] at q
    cases b with
    | false => exact q
    | true => exact ⟨x, rfl, x, .ty "bool", t, _, c, rfl, .ty "bool", ty, h2, c, rfl, q⟩

theorem ok_is_whole {P : Program} {w : World} {K : PySem.W.Frag} {mg : Str → Option Value} {base : Heap} (T : Env K mg) : Fc P w K mg base 1 (He.ga K "is_whole") [] (sp_is_whole K) := by
  obtain ⟨fd, D, F⟩ := fb_is_whole T
  exact F.all (D.bindsN fun _ _ _ _ _ _ us hl => match us, hl with | [_], _ => rfl)
end
section
def sp_is_moment (K : PySem.W.Frag) : Sp := fun vs H Q _ => ∃ x, vs = [x] ∧ Cl K H x ∧ Q (.bl (isM x)) H
theorem fb_is_moment {P : Program} {w : World} {K : PySem.W.Frag} {mg : Str → Option Value} {base : Heap} (T : Env K mg) : ∃ fd, FunD K "is_moment" "is_moment" (defArgs s_is_moment) (defBody s_is_moment) (defScope s_is_moment) [] [] (He.ga K "is_moment") fd ∧ Fb P w K mg base 2 (He.ga K "is_moment") fd ["thing"] (sp_is_moment K) := by
  obtain ⟨fd, F⟩ := T.f_is_moment
  refine ⟨fd, F, fb_of F sc_is_moment (fun vs H Q E h => ?_) (fun cdv A outer s H vs Q E hr h => ?_)⟩
  · obtain ⟨x, rfl, _⟩ := h
    rfl
  · obtain ⟨x, rfl, cl, q⟩ := h
    refine ⟨_, (pss_one (ps_ret (pe_and (c_call (ok_is_whole T) (hr.mono (by decide)) T.g_is_whole T.k_is_whole takes0 (pa_cons (pv 0) pa_nil)) (pe_one (pe_cmpR op_ge (pv 0) pe_int (nomark _)))))), ?_⟩
    refine ⟨x, rfl, x, rfl, cl, isW x, rfl, ?_⟩
    cases x with
    | int i => exact ⟨_, rfl, i, 0, rfl, rfl, q⟩
    | _ => exact q

theorem ok_is_moment {P : Program} {w : World} {K : PySem.W.Frag} {mg : Str → Option Value} {base : Heap} (T : Env K mg) : Fc P w K mg base 2 (He.ga K "is_moment") [] (sp_is_moment K) := by
  obtain ⟨fd, D, F⟩ := fb_is_moment T
  exact F.all (D.bindsN fun _ _ _ _ _ _ us hl => match us, hl with | [_], _ => rfl)
end
section
theorem fig_in (c : Nat) : decide (c ∈ (Str.ofString "0123456789").cps.toList) = Mo.isFig c := by
  have e : (Str.ofString "0123456789").cps.toList = [48, 49, 50, 51, 52, 53, 54, 55, 56, 57] := rfl
  rw [e]
  unfold Mo.isFig
  rw [← Bool.decide_and]
  apply decide_eq_decide.mpr
  simp only [List.mem_cons, List.not_mem_nil, or_false]
  omega
def sp_are_figures (K : PySem.W.Frag) : Sp := fun vs H Q _ => ∃ l : List Nat, vs = [.str (SX.S l)] ∧ l.length ≤ 100000 ∧ ∀ H', Ex H H' → Q (.bl (Mo.figs l)) H'
theorem fb_are_figures {P : Program} {w : World} {K : PySem.W.Frag} {mg : Str → Option Value} {base : Heap} (T : Env K mg) : ∃ fd, FunD K "are_figures" "are_figures" (defArgs s_are_figures) (defBody s_are_figures) (defScope s_are_figures) [] [] (He.ga K "are_figures") fd ∧ Fb P w K mg base 1 (He.ga K "are_figures") fd ["word"] (sp_are_figures K) := by
  obtain ⟨fd, F⟩ := T.f_are_figures
  refine ⟨fd, F, fb_of F sc_are_figures (fun vs H Q E h => ?_) (fun cdv A outer s H vs Q E hr h => ?_)⟩
  · obtain ⟨l, rfl, _⟩ := h
    rfl
  · obtain ⟨l, rfl, hl, q⟩ := h
    refine ⟨_, (pss_one (ps_ret (pe_and (pe_cmpR op_ne (pv 0) pe_str (nomark _)) (pe_one (pe_callB (cr_all rfl) (by rfl) T.n_all (by decide +kernel) (pa_cons (pe_lc (own := [("sign", 1)]) (by rfl) sc_are_figures.nd (pi_str (pv 0)) (blkOk_by (own := [("sign", 1)]) (N := ["word", "sign"]) (sc := defScope s_are_figures) (by decide +kernel)) (fun _ _ _ _ _ => (pg_name (i := 1) sc_are_figures.nd rfl (Or.inl rfl))) (fun _ _ _ _ _ => pts_nil) (fun _ _ _ _ _ => (pe_cmpR op_in_sign (pv 1) (pe_k T.v_FIGURES) (by rfl)))) pa_nil)))))), ?_⟩
    refine ⟨_, rfl, rfl, _, rfl, ?_⟩
    by_cases h0 : l = []
    · subst h0
      rw [decide_eq_true (show V.str (SX.S []) = V.str (Str.ofString "") from rfl)]
      exact q H (.refl H)
    · rw [decide_eq_false (show ¬ V.str (SX.S l) = V.str (Str.ofString "") from fun z => h0 (by injection z with z; exact SX.S_inj z))]
      refine iteT ?_
      refine ⟨_, rfl, _, rfl, fun D nD => lc_fm L2.walk_str (fun i => some (.bl (Mo.isFig (l.getD i 0)))) (fun H' => Ex H H') (fun H' z e => ex_mut e nD) (.refl H) (by show l.toArray.size ≤ 100000; simpa using hl) (fun _ _ => trivial) (fun i x H1 H2 acc N hi e hD la y k => ?_) fun H1 e1 d1 => ?_⟩
      · obtain ⟨rfl, c, hc, rfl⟩ := y
        refine ⟨rfl, _, rfl, c, _, rfl, rfl, acc, hD, la, ?_⟩
        rw [fig_in]
        have e2 : l.getD i 0 = c := by
          have hc2 : l[i]? = some c := by simpa using hc
          rw [List.getD_eq_getElem?_getD, hc2]
          rfl
        have k2 := k H2 e hD
        rw [e2] at k2
        exact k2
      · refine ⟨D, l.map Mo.isFig, rfl, sq_lst ?_, ?_⟩
        · rw [d1]
          have e3 := range_map_get l 0 (fun c => V.bl (Mo.isFig c))
          have e4 : l.toArray.size = l.length := by simp
          show some (HO.lst (List.filterMap _ (List.range l.toArray.size))) = _
          rw [e4, e3, List.map_map]
          rfl
        · have e5 : (l.map Mo.isFig).all id = Mo.figs l := by
            unfold Mo.figs
            rw [List.all_map]
            cases l with
            | nil => exact absurd rfl h0
            | cons a r => rfl
          rw [e5]
          exact q H1 e1

theorem ok_are_figures {P : Program} {w : World} {K : PySem.W.Frag} {mg : Str → Option Value} {base : Heap} (T : Env K mg) : Fc P w K mg base 1 (He.ga K "are_figures") [] (sp_are_figures K) := by
  obtain ⟨fd, D, F⟩ := fb_are_figures T
  exact F.all (D.bindsN fun _ _ _ _ _ _ us hl => match us, hl with | [_], _ => rfl)
end
section
def sp_want_day (K : PySem.W.Frag) : Sp := fun vs H Q E => ∃ x, vs = [x] ∧ Cl K H x ∧ (isM x = true → Q .non H) ∧ (isM x = false → E (.ref (He.ga K "NoDays")) none H)
theorem fb_want_day {P : Program} {w : World} {K : PySem.W.Frag} {mg : Str → Option Value} {base : Heap} (T : Env K mg) : ∃ fd, FunD K "want_day" "want_day" (defArgs s_want_day) (defBody s_want_day) (defScope s_want_day) [] [] (He.ga K "want_day") fd ∧ Fb P w K mg base 3 (He.ga K "want_day") fd ["thing"] (sp_want_day K) := by
  obtain ⟨fd, F⟩ := T.f_want_day
  refine ⟨fd, F, fb_of F sc_want_day (fun vs H Q E h => ?_) (fun cdv A outer s H vs Q E hr h => ?_)⟩
  · obtain ⟨x, rfl, _⟩ := h
    rfl
  · obtain ⟨x, rfl, c, q, qe⟩ := h
    refine ⟨_, (pss_one (ps_if (pt_not (pt_val (c_call (ok_is_moment T) (hr.mono (by decide)) T.g_is_moment T.k_is_moment (takes_of rfl rfl rfl rfl) (pa_cons (pv 0) pa_nil))))
      (pss_one (ps_raise rfl (takes_of rfl rfl rfl rfl) (pmk_own PySem.F.excBase_ValueError T.x_NoDays.x T.g_NoDays T.x_NoDays.kp (raises_own T.x_NoDays.sub T.x_NoDays.ty) rfl)))
      pss_nil)), ?_⟩
    refine ⟨_, rfl, x, rfl, c, _, rfl, ?_⟩
    cases e : isM x with
    | true => exact q e
    | false => exact qe e

theorem ok_want_day {P : Program} {w : World} {K : PySem.W.Frag} {mg : Str → Option Value} {base : Heap} (T : Env K mg) : Fc P w K mg base 3 (He.ga K "want_day") [] (sp_want_day K) := by
  obtain ⟨fd, D, F⟩ := fb_want_day T
  exact F.all (D.bindsN fun _ _ _ _ _ _ us hl => match us, hl with | [_], _ => rfl)
end
section
/-- the signs of a ring -/
def sgn (l : List Nat) : Bool := decide (1 ≤ l.length ∧ l.length ≤ 7) && l.all fun c => c == 48 || c == 49
theorem sgn_in (c : Nat) : inV (.str ⟨#[c]⟩) [.str (Str.ofString "0"), .str (Str.ofString "1")] = (c == 48 || c == 49) := by
  have e : ∀ d : Nat, eqV (.str (SX.S [d])) (.str ⟨#[c]⟩) = (c == d) := fun d => by
    show decide ((SX.S [d]) = SX.S [c]) = (c == d)
    by_cases h : c = d
    · rw [h]
      simp
    · rw [decide_eq_false (fun z => h (by have w : [d] = [c] := SX.S_inj z; injection w with w; exact w.symm))]
      exact (beq_eq_false_iff_ne.mpr h).symm
  show (eqV (.str (SX.S [48])) (.str ⟨#[c]⟩) || (eqV (.str (SX.S [49])) (.str ⟨#[c]⟩) || false)) = _
  rw [e, e, Bool.or_false]
def sp_are_signs (K : PySem.W.Frag) : Sp := fun vs H Q _ => ∃ x, vs = [x] ∧ ((∃ l : List Nat, x = .str (SX.S l) ∧ l.length ≤ 600 ∧ ∀ H', Ex H H' → Q (.bl (sgn l)) H') ∨ (∃ t, TyX K H x t ∧ PySem.W.kitOne K t (.type "str") = some false ∧ Q (.bl false) H))
theorem fb_are_signs {P : Program} {w : World} {K : PySem.W.Frag} {mg : Str → Option Value} {base : Heap} (T : Env K mg) : ∃ fd, FunD K "are_signs" "are_signs" (defArgs s_are_signs) (defBody s_are_signs) (defScope s_are_signs) [] [] (He.ga K "are_signs") fd ∧ Fb P w K mg base 1 (He.ga K "are_signs") fd ["thing"] (sp_are_signs K) := by
  obtain ⟨fd, F⟩ := T.f_are_signs
  refine ⟨fd, F, fb_of F sc_are_signs (fun vs H Q E h => ?_) (fun cdv A outer s H vs Q E hr h => ?_)⟩
  · obtain ⟨x, rfl, _⟩ := h
    rfl
  · obtain ⟨x, rfl, h⟩ := h
    refine ⟨_, (pss_cons (ps_if (PW.pt (pw_or (pt_not (pt_val (pe_callB call_isi (by rfl) T.n_isinstance (by decide +kernel) (pa_cons (pv 0) (pa_cons (pe_bltn (v := .ty "str") (by rfl) T.n_str (by decide +kernel) rfl) pa_nil))))) (pw_or1 (pt_not (pt_chain op_le op_le pe_int (pe_callB call_len (by rfl) T.n_len (by decide +kernel) (pa_cons (pv 0) pa_nil)) (pe_k T.v_MOST_SIGNS))))))
      (pss_one (ps_ret pe_bl))
      pss_nil)
      (pss_one (ps_ret (pe_callB (cr_all rfl) (by rfl) T.n_all (by decide +kernel) (pa_cons (pe_lc (own := [("sign", 1)]) (by rfl) sc_are_signs.nd (pi_str (pv 0)) (blkOk_by (own := [("sign", 1)]) (N := ["thing", "sign"]) (sc := defScope s_are_signs) (by decide +kernel)) (fun _ _ _ _ _ => (pg_name (i := 1) sc_are_signs.nd rfl (Or.inl rfl))) (fun _ _ _ _ _ => pts_nil) (fun _ _ _ _ _ => (pe_cmpR (op_in_seqK K) (pv 1) (pe_tup (pa_cons (pe_k T.v_NOUGHT) (pa_cons (pe_k T.v_ONE) pa_nil))) (by rfl)))) pa_nil))))), ?_⟩
    rcases h with ⟨l, rfl, hl, q⟩ | ⟨t, ty, kt, q⟩
    · have ls : (SX.S l).length ≤ sizeLine := Nat.le_of_lt (small_len (by rw [SX.S_len]; omega))
      refine ⟨_, rfl, .str (SX.S l), .ty "str", _, _, true, rfl, .ty "str", .base (.str _), kit_ty (by decide +kernel), true, rfl, iteF ?_⟩
      refine ⟨_, rfl, _, l.length, rfl, ⟨ls, (SX.S_len l).symm⟩, _, _, rfl, rfl, _, rfl, ?_⟩
      by_cases h1 : 1 ≤ l.length
      · rw [decide_eq_true (show (1 : Int) ≤ (l.length : Nat) by omega)]
        refine ⟨_, _, rfl, rfl, _, rfl, ?_⟩
        by_cases h7 : l.length ≤ 7
        · rw [decide_eq_true (show ((l.length : Nat) : Int) ≤ 7 by omega)]
          refine iteF ?_
          refine ⟨_, rfl, _, rfl, fun D nD => lc_fm L2.walk_str (fun i => some (.bl (l.getD i 0 == 48 || l.getD i 0 == 49))) (fun H' => Ex H H') (fun H' z e => ex_mut e nD) (.refl H) (by show l.toArray.size ≤ 100000; simp; omega) (fun _ _ => trivial) (fun i x H1 H2 acc N hi e hD la y k => ?_) fun H1 e1 d1 => ?_⟩
          · obtain ⟨rfl, c, hc, rfl⟩ := y
            refine ⟨rfl, _, rfl, by show 2 ≤ sizeLine; decide, fun t nt => ?_⟩
            have hDt := fun o => ex_new (o := o) nt _ _ hD
            refine ⟨t, _, rfl, .inr (sq_tup upd_same), rfl, rfl, acc, hDt _, la, ?_⟩
            have e2 : l.getD i 0 = c := by
              have hc2 : l[i]? = some c := by simpa using hc
              rw [List.getD_eq_getElem?_getD, hc2]
              rfl
            have k2 := fun o => k _ (e.trans (ex_new (o := o) nt)) (hDt o)
            have e3 : inV (.str ⟨#[c]⟩) [.str (Str.ofString "0"), .str (Str.ofString "1")] = (l.getD i 0 == 48 || l.getD i 0 == 49) := by
              rw [e2]
              exact sgn_in c
            rw [← e3] at k2
            exact k2 _
          · refine ⟨D, l.map (fun c => c == 48 || c == 49), rfl, sq_lst ?_, ?_⟩
            · rw [d1]
              have e3 := range_map_get l 0 (fun c => V.bl (c == 48 || c == 49))
              have e4 : l.toArray.size = l.length := by simp
              show some (HO.lst (List.filterMap _ (List.range l.toArray.size))) = _
              rw [e4, e3, List.map_map]
              rfl
            · have e5 : (l.map fun c => c == 48 || c == 49).all id = l.all fun c => c == 48 || c == 49 := by
                rw [List.all_map]
                rfl
              rw [e5]
              have z := q H1 e1
              unfold sgn at z
              rw [decide_eq_true ⟨h1, h7⟩, Bool.true_and] at z
              exact z
        · rw [decide_eq_false (show ¬ ((l.length : Nat) : Int) ≤ 7 by omega)]
          have z := q H (.refl H)
          unfold sgn at z
          rw [decide_eq_false (fun y => h7 y.2)] at z
          exact z
      · rw [decide_eq_false (show ¬ (1 : Int) ≤ (l.length : Nat) by omega)]
        have z := q H (.refl H)
        unfold sgn at z
        rw [decide_eq_false (fun y => h1 y.1)] at z
        exact ⟨_, rfl, z⟩
    · exact ⟨_, rfl, x, .ty "str", t, _, false, rfl, .ty "str", ty, kt, false, rfl, q⟩

theorem ok_are_signs {P : Program} {w : World} {K : PySem.W.Frag} {mg : Str → Option Value} {base : Heap} (T : Env K mg) : Fc P w K mg base 1 (He.ga K "are_signs") [] (sp_are_signs K) := by
  obtain ⟨fd, D, F⟩ := fb_are_signs T
  exact F.all (D.bindsN fun _ _ _ _ _ _ us hl => match us, hl with | [_], _ => rfl)
end
section
abbrev RingC (K : PySem.W.Frag) : Addr := He.ga K "Ring"
/-- at a a ring of these signs -/
def RingAt (K : PySem.W.Frag) (H : Hp) (a : Addr) (l : List Nat) : Prop := ∃ dx, H a = some (.ins (RingC K) dx [("bits", .str (SX.S l))])
def sp_Ring_init (K : PySem.W.Frag) : Sp := fun vs H Q E => ∃ a dx x, vs = [.ref a, x] ∧ H a = some (.ins (RingC K) dx []) ∧ ((∃ l : List Nat, x = .str (SX.S l) ∧ l.length ≤ 600 ∧ (sgn l = true → ∀ H', Ex H H' → Q .non (upd H' a (.ins (RingC K) dx [("bits", .str (SX.S l))]))) ∧ (sgn l = false → ∀ H', Ex H H' → E (.ref (He.ga K "NoDays")) none H')) ∨
  (∃ t, TyX K H x t ∧ PySem.W.kitOne K t (.type "str") = some false ∧ E (.ref (He.ga K "NoDays")) none H))
theorem fb_Ring_init {P : Program} {w : World} {K : PySem.W.Frag} {mg : Str → Option Value} {base : Heap} (T : Env K mg) : ∃ fd, FunD K "__init__" "Ring.__init__" (defArgs s_Ring_init) (defBody s_Ring_init) (defScope s_Ring_init) [] [] (He.ma K (He.ga K "Ring") "__init__") fd ∧ Fb P w K mg base 2 (He.ma K (He.ga K "Ring") "__init__") fd ["self", "text"] (sp_Ring_init K) := by
  obtain ⟨fd, F⟩ := T.f_Ring_init
  refine ⟨fd, F, fb_of F sc_Ring_init (fun vs H Q E h => ?_) (fun cdv A outer s H vs Q E hr h => ?_)⟩
  · obtain ⟨a, dx, x, rfl, _⟩ := h
    rfl
  · obtain ⟨a, dx, x, rfl, ha, h⟩ := h
    refine ⟨_, (pss_cons (ps_if (pt_not (pt_val (c_call (ok_are_signs T) (hr.mono (by decide)) T.g_are_signs T.k_are_signs (takes_of rfl rfl rfl rfl) (pa_cons (pv 1) pa_nil))))
      (pss_one (ps_raise rfl (takes_of rfl rfl rfl rfl) (pmk_own PySem.F.excBase_ValueError T.x_NoDays.x T.g_NoDays T.x_NoDays.kp (raises_own T.x_NoDays.sub T.x_NoDays.ty) rfl)))
      pss_nil)
      (pss_one (ps_fld (pv 0) (pv 1) rfl))), ?_⟩
    rcases h with ⟨l, rfl, hl, q, qe⟩ | ⟨t, ty, kt, qe⟩
    · refine ⟨_, rfl, _, rfl, .inl ⟨l, rfl, hl, fun H1 e1 => ⟨_, rfl, ?_⟩⟩⟩
      cases e : sgn l with
      | false => exact qe e H1 e1
      | true =>
        refine iteF ?_
        refine ⟨_, rfl, _, rfl, a, _, dx, [], rfl, e1 _ _ ha, T.c_Ring, T.a_Ring_bits, by decide, ?_⟩
        exact q e H1 e1
    · exact ⟨_, rfl, _, rfl, .inr ⟨t, ty, kt, _, rfl, qe⟩⟩
theorem ex_made {H : Hp} {x dx : Addr} {o1 o2 : HO} (nx : H x = none) (nd : H dx = none) (ne : dx ≠ x) : Ex H (upd (upd H dx o1) x o2) := fun b o e => by
  rw [upd_ne (ne_of_none e nx), upd_ne (ne_of_none e nd)]
  exact e
theorem ring_new {K : PySem.W.Frag} {H : Hp} {x dx : Addr} {l : List Nat} {Q : VK} {E : XK} (nx : H x = none) (nd : H dx = none) (ne : dx ≠ x) (hs : sgn l = true) (q : ∀ H', Ex H H' → RingAt K H' x l → Q .non H') :
    sp_Ring_init K [.ref x, .str (SX.S l)] (upd (upd H dx (.own x)) x (.ins (RingC K) dx [])) Q E := by
  have h7 : 1 ≤ l.length ∧ l.length ≤ 7 := of_decide_eq_true (Bool.and_eq_true_iff.mp hs).1
  refine ⟨x, dx, _, rfl, upd_same, .inl ⟨l, rfl, by omega, fun _ H' e => q _ ?_ ⟨dx, upd_same⟩, fun z => absurd (hs.symm.trans z) Bool.noConfusion⟩⟩
  exact ex_mut ((ex_made nx nd ne).trans e) nx

theorem ok_Ring_init {P : Program} {w : World} {K : PySem.W.Frag} {mg : Str → Option Value} {base : Heap} (T : Env K mg) : Fc P w K mg base 2 (He.ma K (He.ga K "Ring") "__init__") [] (sp_Ring_init K) := by
  obtain ⟨fd, D, F⟩ := fb_Ring_init T
  exact F.all (D.bindsN fun _ _ _ _ _ _ us hl => match us, hl with | [_, _], _ => rfl)
end
section
def sp_Ring_str (K : PySem.W.Frag) : Sp := fun vs H Q _ => ∃ a l, vs = [.ref a] ∧ RingAt K H a l ∧ Q (.str (SX.S l)) H
theorem fb_Ring_str {P : Program} {w : World} {K : PySem.W.Frag} {mg : Str → Option Value} {base : Heap} (T : Env K mg) : ∃ fd, FunD K "__str__" "Ring.__str__" (defArgs s_Ring_str) (defBody s_Ring_str) (defScope s_Ring_str) [] [] (He.ma K (He.ga K "Ring") "__str__") fd ∧ Fb P w K mg base 1 (He.ma K (He.ga K "Ring") "__str__") fd ["self"] (sp_Ring_str K) := by
  obtain ⟨fd, F⟩ := T.f_Ring_str
  refine ⟨fd, F, fb_of F sc_Ring_str (fun vs H Q E h => ?_) (fun cdv A outer s H vs Q E hr h => ?_)⟩
  · obtain ⟨a, l, rfl, _⟩ := h
    rfl
  · obtain ⟨a, l, rfl, ⟨dx, ha⟩, q⟩ := h
    refine ⟨_, (pss_one (ps_ret (pe_callTy SkE.call_str_str (by rfl) T.n_str (by decide +kernel) (pa_cons (pe_fld (pv 0) (by rfl)) pa_nil)))), ?_⟩
    exact ⟨_, rfl, a, _, dx, _, _, rfl, ha, T.c_Ring, T.a_Ring_bits, rfl, _, rfl, q⟩

theorem ok_Ring_str {P : Program} {w : World} {K : PySem.W.Frag} {mg : Str → Option Value} {base : Heap} (T : Env K mg) : Fc P w K mg base 1 (He.ma K (He.ga K "Ring") "__str__") [] (sp_Ring_str K) := by
  obtain ⟨fd, D, F⟩ := fb_Ring_str T
  exact F.all (D.bindsN fun _ _ _ _ _ _ us hl => match us, hl with | [_], _ => rfl)
end
section
theorem sgn_at {l : List Nat} {d : Nat} (hs : sgn l = true) : ∃ c, atI l (((d : Nat) : Int) % ((l.length : Nat) : Int)) = some c ∧ decide (V.str ⟨#[c]⟩ = V.str (Str.ofString "1")) = (l.getD (d % l.length) 0 == 49) := by
  have h7 : 1 ≤ l.length ∧ l.length ≤ 7 := of_decide_eq_true (Bool.and_eq_true_iff.mp hs).1
  have lt : d % l.length < l.length := Nat.mod_lt _ (by omega)
  refine ⟨l[d % l.length], ?_, ?_⟩
  · rw [show ((d : Nat) : Int) % ((l.length : Nat) : Int) = ((d % l.length : Nat) : Int) by omega]
    exact atI_nat (List.getElem?_eq_getElem lt)
  · have e1 : l.getD (d % l.length) 0 = l[d % l.length] := by simp [List.getD, lt]
    rw [e1]
    by_cases h : l[d % l.length] = 49
    · rw [h]
      rfl
    · rw [decide_eq_false (fun y => h (by injection y with y; have w : [l[d % l.length]] = [49] := SX.S_inj y; injection w))]
      exact (beq_eq_false_iff_ne.mpr h).symm
def sp_Ring_rings (K : PySem.W.Frag) : Sp := fun vs H Q E => ∃ a l x, vs = [.ref a, x] ∧ RingAt K H a l ∧ sgn l = true ∧ Cl K H x ∧ (∀ d : Nat, x = .int d → Q (.bl (l.getD (d % l.length) 0 == 49)) H) ∧ (isM x = false → E (.ref (He.ga K "NoDays")) none H)
theorem fb_Ring_rings {P : Program} {w : World} {K : PySem.W.Frag} {mg : Str → Option Value} {base : Heap} (T : Env K mg) : ∃ fd, FunD K "rings" "Ring.rings" (defArgs s_Ring_rings) (defBody s_Ring_rings) (defScope s_Ring_rings) [] [] (He.ma K (He.ga K "Ring") "rings") fd ∧ Fb P w K mg base 4 (He.ma K (He.ga K "Ring") "rings") fd ["self", "day"] (sp_Ring_rings K) := by
  obtain ⟨fd, F⟩ := T.f_Ring_rings
  refine ⟨fd, F, fb_of F sc_Ring_rings (fun vs H Q E h => ?_) (fun cdv A outer s H vs Q E hr h => ?_)⟩
  · obtain ⟨a, l, x, rfl, _⟩ := h
    rfl
  · obtain ⟨a, l, x, rfl, ⟨dx, ha⟩, hs, c, q, qe⟩ := h
    refine ⟨_, (pss_cons (ps_expr (c_call (ok_want_day T) (hr.mono (by decide)) T.g_want_day T.k_want_day (takes_of rfl rfl rfl rfl) (pa_cons (pv 1) pa_nil)))
      (pss_one (ps_ret (pe_cmpR op_eq (pe_ix ix_str (pe_fld (pv 0) (by rfl)) (pe_op op_mod (pv 1) (pe_callB call_len (by rfl) T.n_len (by decide +kernel) (pa_cons (pe_fld (pv 0) (by rfl)) pa_nil))) (fun _ _ => rfl)) (pe_k T.v_ONE) (nomark _))))), ?_⟩
    refine ⟨_, rfl, x, rfl, c, fun e => ?_, qe⟩
    obtain ⟨i, rfl, i0⟩ := isM_w e
    obtain ⟨d, rfl⟩ := Int.eq_ofNat_of_zero_le i0
    have h7 : 1 ≤ l.length ∧ l.length ≤ 7 := of_decide_eq_true (Bool.and_eq_true_iff.mp hs).1
    have ls : (SX.S l).length ≤ sizeLine := Nat.le_of_lt (small_len (by rw [SX.S_len]; omega))
    refine ⟨_, rfl, a, _, dx, _, _, rfl, ha, T.c_Ring, T.a_Ring_bits, rfl, ?_⟩
    refine ⟨_, rfl, _, rfl, a, _, dx, _, _, rfl, ha, T.c_Ring, T.a_Ring_bits, rfl, _, l.length, rfl, ⟨ls, (SX.S_len l).symm⟩, _, _, rfl, rfl, (by show (0 : Int) < l.length; omega), ?_⟩
    have lt : d % l.length < l.length := Nat.mod_lt _ (by omega)
    refine ⟨_, _, l[d % l.length], rfl, rfl, ls, ?_, rfl, ?_⟩
    · show atI l (((d : Nat) : Int) % ((l.length : Nat) : Int)) = _
      rw [show ((d : Nat) : Int) % ((l.length : Nat) : Int) = ((d % l.length : Nat) : Int) by omega]
      exact atI_nat (List.getElem?_eq_getElem lt)
    · have z := q d rfl
      have e1 : l.getD (d % l.length) 0 = l[d % l.length] := by simp [List.getD, lt]
      rw [e1] at z
      have e2 : decide (V.str ⟨#[l[d % l.length]]⟩ = V.str (Str.ofString "1")) = (l[d % l.length] == 49) := by
        by_cases h : l[d % l.length] = 49
        · rw [h]
          rfl
        · rw [decide_eq_false (fun y => h (by injection y with y; have w : [l[d % l.length]] = [49] := SX.S_inj y; injection w))]
          exact (beq_eq_false_iff_ne.mpr h).symm
      rw [e2]
      exact z

theorem ok_Ring_rings {P : Program} {w : World} {K : PySem.W.Frag} {mg : Str → Option Value} {base : Heap} (T : Env K mg) : Fc P w K mg base 4 (He.ma K (He.ga K "Ring") "rings") [] (sp_Ring_rings K) := by
  obtain ⟨fd, D, F⟩ := fb_Ring_rings T
  exact F.all (D.bindsN fun _ _ _ _ _ _ us hl => match us, hl with | [_, _], _ => rfl)
end
section
/-- whole numbers as values -/
def natV (ns : List Nat) : List V := ns.map fun n : Nat => V.int (n : Int)
/-- a list of days that is handed in: None, a list, a tuple -/
def DayL (K : PySem.W.Frag) (H : Hp) (x : V) (ns : List Nat) : Prop := (x = .non ∧ ns = []) ∨ (∃ a, x = .ref a ∧ ((H a = some (.lst (natV ns))) ∨ (H a = some (.tup (natV ns)))) ∧ ns.length ≤ 8 ∧ ns.Nodup)
/-- in order -/
def srtN (ns : List Nat) : List Nat := (srt (ns.map fun n : Nat => (n : Int))).map Int.toNat
theorem nat_int (ns : List Nat) : natV ns = (ns.map fun n : Nat => (n : Int)).map V.int := by
  unfold natV
  rw [List.map_map]
  rfl
theorem inV_nat (d : Nat) (ns : List Nat) : inV (.int (d : Int)) (natV ns) = decide (d ∈ ns) := by
  rw [nat_int, inV_int]
  apply decide_eq_decide.mpr
  constructor
  · intro h
    obtain ⟨n, hn, e⟩ := List.mem_map.mp h
    have : n = d := by omega
    exact this ▸ hn
  · intro h
    exact List.mem_map.mpr ⟨d, h, rfl⟩
theorem flat_nat (ns : List Nat) : (natV ns).all flatV = true := by
  rw [nat_int]
  exact flat_ints _
theorem mem_srtN (d : Nat) (ns : List Nat) : decide (d ∈ srtN ns) = decide (d ∈ ns) := by
  apply decide_eq_decide.mpr
  unfold srtN
  constructor
  · intro h
    obtain ⟨i, hi, e⟩ := List.mem_map.mp h
    obtain ⟨n, hn, e2⟩ := List.mem_map.mp ((srt_perm _).subset hi)
    have : n = d := by omega
    exact this ▸ hn
  · intro h
    exact List.mem_map.mpr ⟨(d : Int), (srt_perm _).symm.subset (List.mem_map.mpr ⟨d, h, rfl⟩), by simp⟩
theorem srtN_mem (d : Nat) (ns : List Nat) : d ∈ srtN ns ↔ d ∈ ns := decide_eq_decide.mp (mem_srtN d ns)
theorem natV_len (ns : List Nat) : (natV ns).length = ns.length := by
  unfold natV
  rw [List.length_map]
theorem srtN_len (ns : List Nat) : (srtN ns).length = ns.length := by
  unfold srtN
  rw [List.length_map, (srt_perm _).length_eq, List.length_map]
theorem fm_const (n : Nat) (v : V) : (List.range n).filterMap (fun _ => some v) = List.replicate n v := by
  induction n with
  | zero => rfl
  | succ n ih => rw [List.range_succ, List.filterMap_append, ih, List.replicate_succ']; rfl
theorem any_rep (n : Nat) : (List.replicate n false).any id = false := by
  induction n with
  | zero => rfl
  | succ n ih => rw [List.replicate_succ, List.any_cons, ih]; rfl
theorem natV_srt (ns : List Nat) : (srt (ns.map fun n : Nat => (n : Int))).map V.int = natV (srtN ns) := by
  unfold natV srtN
  rw [List.map_map]
  apply List.map_congr_left
  intro i hi
  obtain ⟨n, _, e⟩ := List.mem_map.mp ((srt_perm _).subset hi)
  show V.int i = V.int ((i.toNat : Nat) : Int)
  rw [Int.toNat_of_nonneg (by omega)]
theorem srtN_lt {ns : List Nat} (h : ns.Nodup) : (srtN ns).Pairwise (· < ·) := by
  have h1 : (srt (ns.map fun n : Nat => (n : Int))).Pairwise (· ≤ ·) := srt_sorted _
  have h2 : (srt (ns.map fun n : Nat => (n : Int))).Nodup := (srt_perm _).nodup_iff.mpr (List.Pairwise.map _ (fun a b (hab : a ≠ b) (z : (a : Int) = b) => hab (by omega)) h)
  unfold srtN
  refine List.pairwise_map.mpr ?_
  have h0 : ∀ i ∈ srt (ns.map fun n : Nat => (n : Int)), 0 ≤ i := fun i hi => by
    obtain ⟨n, _, e⟩ := List.mem_map.mp ((srt_perm _).subset hi)
    omega
  refine (List.Pairwise.and h1 h2).imp_of_mem fun {a b} ha hb z => ?_
  have := h0 a ha
  have := h0 b hb
  have := z.1
  have : a ≠ b := z.2
  omega
theorem cut1 (xs : List V) : cutV xs (some 1) none = xs.drop 1 := by
  unfold cutV
  rw [HT.sIx_none, show (some (1 : Int)) = some ((1 : Nat) : Int) from rfl, HT.sIx_nat]
  cases xs with
  | nil => rfl
  | cons x r =>
    rw [show min 1 (x :: r).length = 1 by simp]
    exact List.take_of_length_le (by simp)
theorem zip_next {l : List Nat} (h : l.Pairwise (· < ·)) {i : Nat} {x y : V} (h1 : (natV l)[i]? = some x) (h2 : ((natV l).drop 1)[i]? = some y) : ∃ a b : Nat, x = .int a ∧ y = .int b ∧ a < b := by
  unfold natV at h1 h2
  rw [List.getElem?_drop] at h2
  rw [List.getElem?_map] at h1 h2
  obtain ⟨a, ha, ea⟩ := Option.map_eq_some_iff.mp h1
  obtain ⟨b, hb, eb⟩ := Option.map_eq_some_iff.mp h2
  obtain ⟨l1, e1⟩ := List.getElem?_eq_some_iff.mp ha
  obtain ⟨l2, e2⟩ := List.getElem?_eq_some_iff.mp hb
  refine ⟨a, b, ea.symm, eb.symm, ?_⟩
  have := List.pairwise_iff_getElem.mp h i (1 + i) l1 l2 (by omega)
  rw [e1, e2] at this
  exact this
/-- the days of a list that is handed in, none where they are none -/
def dayNum : V → Nat
  | .int i => i.toNat
  | _ => 0
def dayList (xs : List V) : Option (List Nat) := if (decide (xs.length ≤ 8) && xs.all isM && decide (xs.map dayNum).Nodup) = true then some (xs.map dayNum) else none
/-- what is handed in for days, and what it tells -/
def DayG (K : PySem.W.Frag) (H : Hp) (x : V) (r : Option (List Nat)) : Prop := (x = .non ∧ r = some []) ∨ (∃ a xs, x = .ref a ∧ (H a = some (.lst xs) ∨ H a = some (.tup xs)) ∧ xs.length ≤ 10000 ∧ (∀ y ∈ xs, Cl K H y) ∧ r = dayList xs) ∨ (x ≠ .non ∧ (∃ t, TyX K H x t ∧ PySem.W.kitAny K t [.type "list", .type "tuple"] = some false) ∧ r = none)
theorem natV_isM (ns : List Nat) : (natV ns).all isM = true := by
  rw [List.all_eq_true]
  intro x hx
  obtain ⟨n, _, rfl⟩ := List.mem_map.mp hx
  exact isM_nat n
theorem natV_num (ns : List Nat) : (natV ns).map dayNum = ns := by
  unfold natV
  rw [List.map_map]
  have : (dayNum ∘ fun n : Nat => V.int (n : Int)) = id := funext fun n => by simp [dayNum]
  rw [this, List.map_id]
theorem isM_natV : ∀ {xs : List V}, xs.all isM = true → xs = natV (xs.map dayNum)
  | [], _ => rfl
  | x :: xs, h => by
    obtain ⟨h1, h2⟩ := Bool.and_eq_true_iff.mp (show (isM x && xs.all isM) = true from h)
    obtain ⟨i, rfl, i0⟩ := isM_w h1
    obtain ⟨n, rfl⟩ := Int.eq_ofNat_of_zero_le i0
    have ih := isM_natV h2
    show V.int (n : Nat) :: xs = V.int (((Int.ofNat n).toNat : Nat) : Int) :: natV (xs.map dayNum)
    rw [← ih]
    rfl
theorem dayList_nat (ns : List Nat) : dayList (natV ns) = if decide (ns.length ≤ 8) && decide ns.Nodup then some ns else none := by
  unfold dayList
  rw [natV_isM, natV_num, natV_len, Bool.and_true]
theorem DayL.gen {K : PySem.W.Frag} {H : Hp} {x : V} {ns : List Nat} (h : DayL K H x ns) : DayG K H x (some ns) := by
  rcases h with ⟨h1, h2⟩ | ⟨a, h1, h2, h3, h4⟩
  · exact .inl ⟨h1, by rw [h2]⟩
  · refine .inr (.inl ⟨a, natV ns, h1, h2, by rw [natV_len]; omega, fun y hy => ?_, ?_⟩)
    · obtain ⟨n, _, rfl⟩ := List.mem_map.mp hy
      exact cl_int _
    · rw [dayList_nat, decide_eq_true h3, decide_eq_true h4]
      rfl
theorem DayG.mono {K : PySem.W.Frag} {H H' : Hp} {x : V} {r : Option (List Nat)} (h : DayG K H x r) (e : Ex H H') : DayG K H' x r := by
  rcases h with h | ⟨a, xs, h1, h2, h3, h4, h5⟩ | ⟨h1, ⟨t, h2, h3⟩, h4⟩
  · exact .inl h
  · exact .inr (.inl ⟨a, xs, h1, h2.imp (e _ _) (e _ _), h3, fun y hy => (h4 y hy).mono e, h5⟩)
  · exact .inr (.inr ⟨h1, ⟨t, tyX_mono e h2, h3⟩, h4⟩)
/-- neighbours that are alike -/
def alikeN (l : List Nat) : List Bool := (l.zip (l.drop 1)).map fun p => decide (p.1 = p.2)
theorem alike_any {l : List Nat} (h : l.Pairwise (· ≤ ·)) : (alikeN l).any id = !decide l.Nodup := by
  induction l with
  | nil => rfl
  | cons a l ih =>
    obtain ⟨h1, h2⟩ := List.pairwise_cons.mp h
    have ih := ih h2
    cases l with
    | nil => rfl
    | cons b r =>
      have e : alikeN (a :: b :: r) = decide (a = b) :: alikeN (b :: r) := rfl
      rw [e, List.any_cons, ih]
      by_cases c : a = b
      · have nn : ¬ (a :: b :: r).Nodup := fun z => (List.pairwise_cons.mp z).1 b List.mem_cons_self c
        rw [decide_eq_false nn, decide_eq_true c]
        rfl
      · have iff : (a :: b :: r).Nodup ↔ (b :: r).Nodup := by
          refine ⟨fun z => (List.pairwise_cons.mp z).2, fun z => List.pairwise_cons.mpr ⟨fun x hx ex => ?_, z⟩⟩
          subst ex
          have hb := h1 b List.mem_cons_self
          rcases List.mem_cons.mp hx with hx | hx
          · exact c hx
          · have := (List.pairwise_cons.mp h2).1 a hx
            omega
        rw [decide_eq_false c, show decide (a :: b :: r).Nodup = decide (b :: r).Nodup from decide_eq_decide.mpr iff]
        rfl
theorem srtN_le (ns : List Nat) : (srtN ns).Pairwise (· ≤ ·) := by
  unfold srtN
  refine List.pairwise_map.mpr ((srt_sorted _).imp fun {a b} h => ?_)
  omega
theorem srtN_nodup (ns : List Nat) : decide (srtN ns).Nodup = decide ns.Nodup := by
  apply decide_eq_decide.mpr
  have p : (srtN ns).Perm ns := by
    unfold srtN
    have := (srt_perm (ns.map fun n : Nat => (n : Int))).map Int.toNat
    rw [List.map_map] at this
    have e : (Int.toNat ∘ fun n : Nat => (n : Int)) = id := funext fun n => by simp
    rw [e, List.map_id] at this
    exact this
  exact p.nodup_iff
def sp_told_days (K : PySem.W.Frag) : Sp := fun vs H Q E => ∃ x r, vs = [x] ∧ DayG K H x r ∧ (∀ ns, r = some ns → ∀ p H', Ex H H' → H p = none → H' p = some (.tup (natV (srtN ns))) → Q (.ref p) H') ∧ (r = none → ∀ H', Ex H H' → E (.ref (He.ga K "NoDays")) none H')
theorem fb_told_days {P : Program} {w : World} {K : PySem.W.Frag} {mg : Str → Option Value} {base : Heap} (T : Env K mg) : ∃ fd, FunD K "told_days" "told_days" (defArgs s_told_days) (defBody s_told_days) (defScope s_told_days) [] [] (He.ga K "told_days") fd ∧ Fb P w K mg base 4 (He.ga K "told_days") fd ["thing"] (sp_told_days K) := by
  obtain ⟨fd, F⟩ := T.f_told_days
  refine ⟨fd, F, fb_of F sc_told_days (fun vs H Q E h => ?_) (fun cdv A outer s H vs Q E hr h => ?_)⟩
  · obtain ⟨x, ns, rfl, _⟩ := h
    rfl
  · obtain ⟨x, r, rfl, hx, q, qe⟩ := h
    refine ⟨_, (pss_cons (ps_if (pt_cmpR op_isN (pv 0) pe_non (nomark _))
      (pss_one (ps_ret (pe_tup pa_nil)))
      pss_nil)
      (pss_cons (ps_if (PW.pt (pw_or (pt_not (pt_val (pe_callB call_isiT (by rfl) T.n_isinstance (by decide +kernel) (pa_cons (pv 0) (pa_cons (pe_tup (pa_cons (pe_bltn (v := .ty "list") (by rfl) T.n_list (by decide +kernel) rfl) (pa_cons (pe_bltn (v := .ty "tuple") (by rfl) T.n_tuple (by decide +kernel) rfl) pa_nil))) pa_nil))))) (pw_or1 (pt_cmpR op_gt (pe_callB call_len (by rfl) T.n_len (by decide +kernel) (pa_cons (pv 0) pa_nil)) (pe_k T.v_MOST_DAYS) (nomark _)))))
      (pss_one (ps_raise rfl (takes_of rfl rfl rfl rfl) (pmk_own PySem.F.excBase_ValueError T.x_NoDays.x T.g_NoDays T.x_NoDays.kp (raises_own T.x_NoDays.sub T.x_NoDays.ty) rfl)))
      pss_nil)
      (Evl.pss_cut (ps_for (passes_of rfl) rfl (pi_seq (pv 0)) (pg_name (i := 1) sc_told_days.nd rfl (Or.inl rfl))
      (pss_one (ps_expr (c_call (ok_want_day T) (hr.mono (by decide)) T.g_want_day T.k_want_day (takes_of rfl rfl rfl rfl) (pa_cons (pv 1) pa_nil)))))
      (pss_cons (ps_set (i := 2) sc_told_days.nd rfl (Or.inl rfl) (pe_callTy call_tuple_of (by rfl) T.n_tuple (by decide +kernel) (pa_cons (pe_callB (cr_sortedA K) (by rfl) T.n_sorted (by decide +kernel) (pa_cons (pv 0) pa_nil)) pa_nil)))
      (pss_cons (ps_if (pt_val (pe_callB (cr_any rfl) (by rfl) T.n_any (by decide +kernel) (pa_cons (pe_lc (own := [("one", 3), ("other", 4)]) (by rfl) sc_told_days.nd (RZ.pi_zipA (by rfl) T.n_zip (pa_cons (pv 2) (pa_cons (pe_slice sl_tupA (pv 2) (po_some pe_int) po_none) pa_nil))) (blkOk_by (own := [("one", 3), ("other", 4)]) (N := ["thing", "day", "found", "one", "other"]) (sc := defScope s_told_days) (by decide +kernel)) (fun _ _ _ _ _ => (pg_tupK K (n := 2) rfl (pgs_cons (pg_name (i := 3) sc_told_days.nd rfl (Or.inl rfl)) (pgs_cons (pg_name (i := 4) sc_told_days.nd rfl (Or.inl rfl)) pgs_nil)))) (fun _ _ _ _ _ => pts_nil) (fun _ _ _ _ _ => (pe_cmpR op_eq (pv 3) (pv 4) (nomark _)))) pa_nil)))
      (pss_one (ps_raise rfl (takes_of rfl rfl rfl rfl) (pmk_own PySem.F.excBase_ValueError T.x_NoDays.x T.g_NoDays T.x_NoDays.kp (raises_own T.x_NoDays.sub T.x_NoDays.ty) rfl)))
      pss_nil)
      (pss_one (ps_ret (pv 2)))))))), ?_⟩
    rcases hx with ⟨rfl, rfl⟩ | ⟨a, xs, rfl, hl, lx, hc, er⟩ | ⟨nx, ⟨t, ty, kt⟩, rfl⟩
    · refine ⟨_, rfl, rfl, _, rfl, iteT ?_⟩
      refine ⟨by show 0 ≤ sizeLine; decide, fun p np => q [] rfl p _ (ex_new np) np ?_⟩
      have e : srtN [] = [] := List.eq_nil_of_length_eq_zero (by rw [srtN_len]; rfl)
      rw [upd_same, e]
      rfl
    · refine ⟨_, rfl, rfl, _, rfl, iteF ?_⟩
      refine ⟨_, rfl, by show 2 ≤ sizeLine; decide, fun tp ntp => ?_⟩
      have X1 := ex_new (o := .tup [.ty "list", .ty "tuple"]) ntp
      have ty : ∃ t, TyX K (upd H tp (.tup [.ty "list", .ty "tuple"])) (.ref a) t ∧ PySem.W.kitAny K t [.type "list", .type "tuple"] = some true := by
        rcases hl with h | h
        · exact ⟨_, .base (.lst (X1 _ _ h)), kitAny_cons (b := true) (kit_ty (by decide +kernel)) (fun z => nomatch z) (fun _ => rfl)⟩
        · exact ⟨_, .base (.tup (X1 _ _ h)), kitAny_cons (b := false) (kit_ty (by decide +kernel)) (fun _ => kitAny_cons (b := true) (kit_ty (by decide +kernel)) (fun z => nomatch z) (fun _ => rfl)) (by decide)⟩
      obtain ⟨t, ty, kt⟩ := ty
      have sq : ∀ {H' : Hp}, Ex H H' → SqL K H' a xs ∨ SqT K H' a xs := fun {H'} e => by
        rcases hl with h | h
        · exact .inl (sq_lst (e _ _ h))
        · exact .inr (sq_tup (e _ _ h))
      refine ⟨.ref a, tp, _, t, _, true, rfl, upd_same, .cons (.ty "list") (.cons (.ty "tuple") .nil), ty, kt, true, rfl, iteF ?_⟩
      refine ⟨_, rfl, _, xs.length, rfl, ?_, _, _, rfl, rfl, _, rfl, ?_⟩
      · rcases sq X1 with h | h
        · exact .inl ⟨_, h, rfl⟩
        · exact .inr ⟨_, h, rfl⟩
      by_cases l8 : 8 < xs.length
      · rw [decide_eq_true (show (8 : Int) < ((xs.length : Nat) : Int) by omega)]
        refine qe ?_ _ X1
        rw [er]
        unfold dayList
        rw [decide_eq_false (show ¬ xs.length ≤ 8 by omega)]
        rfl
      rw [decide_eq_false (show ¬ (8 : Int) < ((xs.length : Nat) : Int) by omega)]
      refine iteF ?_
      have H1d : ∀ y ∈ xs, Cl K (upd H tp (.tup [.ty "list", .ty "tuple"])) y := fun y hy => (hc y hy).mono X1
      refine ⟨fun σ' H' => H' = upd H tp (.tup [.ty "list", .ty "tuple"]) ∧ xs.all isM = true ∧ ∃ v, σ' = [some (.ref a), v, none, none, none], ?_, ?_⟩
      · have stp : ∀ (i : Nat) (x : V) (σ : L2.St) (H' : Hp) (D : Ends), xs[i]? = some x → (H' = upd H tp (.tup [.ty "list", .ty "tuple"]) ∧ (xs.take i).all isM = true ∧ ∃ v, σ = [some (.ref a), v, none, none, none]) →
            sp_want_day K [x] H' (fun _ H2 => H2 = upd H tp (.tup [.ty "list", .ty "tuple"]) ∧ (xs.take (i + 1)).all isM = true ∧ ∃ v, (σ.set 1 (some x)) = [some (.ref a), v, none, none, none]) (fun c d H' => E c d H') := fun i x σ H' D hx ⟨e1, e2, v, e3⟩ => by
          subst e1 e3
          refine ⟨x, rfl, H1d x (List.mem_of_getElem? hx), fun hm => ⟨rfl, ?_, _, rfl⟩, fun hm => qe ?_ _ X1⟩
          · rw [take_snoc hx, List.all_append, e2]
            simp [hm]
          · rw [er]
            unfold dayList
            have : xs.all isM = false := by
              rw [List.all_eq_false]
              exact ⟨x, List.mem_of_getElem? hx, by rw [hm]; decide⟩
            rw [this, Bool.and_false, Bool.false_and]
            rfl
        have fin : ∀ (σ : L2.St) (H' : Hp), (H' = upd H tp (.tup [.ty "list", .ty "tuple"]) ∧ (xs.take xs.length).all isM = true ∧ ∃ v, σ = [some (.ref a), v, none, none, none]) → H' = upd H tp (.tup [.ty "list", .ty "tuple"]) ∧ xs.all isM = true ∧ ∃ v, σ = [some (.ref a), v, none, none, none] := fun σ H' h => by
          rw [List.take_length] at h
          exact h
        rcases hl with h | h
        · refine .inl ⟨_, rfl, a, rfl, ⟨_, sq_lst (X1 _ _ h)⟩, for_list (fun i σ H' => H' = upd H tp (.tup [.ty "list", .ty "tuple"]) ∧ (xs.take i).all isM = true ∧ ∃ v, σ = [some (.ref a), v, none, none, none]) ⟨rfl, rfl, _, rfl⟩ (fun i σ H' _ e => by rw [e.1]; exact sq_lst (X1 _ _ h)) ?_ fin⟩
          intro i x σ H' hx p
          obtain ⟨e1, e2, v, e3⟩ := id p
          have := stp i x σ H' { nx := fun _ _ => True, rt := fun _ _ => True } hx p
          subst e3
          exact ⟨_, rfl, this⟩
        · refine .inr ⟨_, rfl, a, rfl, ⟨_, sq_tup (X1 _ _ h)⟩, for_tup (fun i σ H' => H' = upd H tp (.tup [.ty "list", .ty "tuple"]) ∧ (xs.take i).all isM = true ∧ ∃ v, σ = [some (.ref a), v, none, none, none]) ⟨rfl, rfl, _, rfl⟩ (fun i σ H' _ e => by rw [e.1]; exact sq_tup (X1 _ _ h)) ?_ fin⟩
          intro i x σ H' hx p
          obtain ⟨e1, e2, v, e3⟩ := id p
          have := stp i x σ H' { nx := fun _ _ => True, rt := fun _ _ => True } hx p
          subst e3
          exact ⟨_, rfl, this⟩
      rintro σ' H1 ⟨rfl, hM, v, rfl⟩
      have exs := isM_natV hM
      generalize xs.map dayNum = ns at exs
      subst exs
      rw [dayList_nat] at er
      rw [natV_len] at l8
      rw [decide_eq_true (show ns.length ≤ 8 by omega), Bool.true_and] at er
      refine ⟨_, rfl, a, ns.map (fun n : Nat => (n : Int)), rfl, by rw [← nat_int]; exact sq X1, fun p1 np1 => ?_⟩
      rw [natV_srt]
      refine ⟨p1, _, rfl, .inl ⟨sq_lst upd_same, fun l nl => ?_⟩⟩
      have X3 := (X1.trans (ex_new (o := .lst (natV (srtN ns))) np1)).trans (ex_new (o := .tup (natV (srtN ns))) nl)
      have nl0 : H l = none := ex_fresh (X1.trans (ex_new np1)) nl
      have hl3 : upd (upd (upd H tp (.tup [.ty "list", .ty "tuple"])) p1 (.lst (natV (srtN ns)))) l (.tup (natV (srtN ns))) l = some (.tup (natV (srtN ns))) := upd_same
      generalize upd (upd (upd H tp (.tup [.ty "list", .ty "tuple"])) p1 (.lst (natV (srtN ns)))) l (.tup (natV (srtN ns))) = H3 at X3 hl3 ⊢
      refine ⟨_, rfl, _, rfl, _, rfl, ?_⟩
      dsimp only [tNoPart]
      refine slA_of (sq_tup hl3) fun b2 H4 X4 hb2 => ?_
      rw [cut1] at hb2
      have ed : (natV (srtN ns)).drop 1 = natV ((srtN ns).drop 1) := by
        unfold natV
        rw [List.map_drop]
      rw [ed] at hb2
      have sl := srtN_len ns
      refine ⟨l, b2, natV (srtN ns), natV ((srtN ns).drop 1), rfl, .inr ⟨sq_tup (X4 _ _ hl3), hb2, fun D nD => lc_zip (srtN ns) ((srtN ns).drop 1) (fun n : Nat => V.int n) (fun n : Nat => V.int n) (walk_zipT rfl) (by rw [List.length_map, List.length_map]) (fun x y => some (.bl (decide (x = y)))) (fun H' => Ex H4 H') (fun H' z e => ex_mut e nD) (.refl _) (by omega) (fun H' e => ⟨sq_tup (e _ _ (X4 _ _ hl3)), ex_sqt e hb2⟩) (fun i x y u H5 acc N hx hy X5 nu hA la k => ?_) fun H5 X5 d5 => ?_⟩⟩
      · have hA2 := fun o => ex_new (o := o) nu _ _ hA
        refine ⟨u, _, rfl, sq_tup upd_same, rfl, _, _, rfl, _, _, rfl, rfl, rfl, _, rfl, _, rfl, rfl, acc, hA2 _, la, ?_⟩
        have eq : decide (V.int ((x : Nat) : Int) = V.int ((y : Nat) : Int)) = decide (x = y) := decide_eq_decide.mpr ⟨fun z => by injection z with z; omega, fun z => by rw [z]⟩
        rw [eq]
        exact k _ (X5.trans (ex_new nu)) (hA2 _)
      · have eb : ((srtN ns).zip ((srtN ns).drop 1)).filterMap (fun p => some (V.bl (decide (p.1 = p.2)))) = (alikeN (srtN ns)).map V.bl := by
          unfold alikeN
          rw [List.filterMap_eq_map', List.map_map]
          rfl
        rw [eb] at d5
        refine ⟨D, alikeN (srtN ns), rfl, sq_lst d5, ?_⟩
        rw [alike_any (srtN_le ns), srtN_nodup]
        have X := (X3.trans X4).trans X5
        by_cases nd : ns.Nodup
        · rw [decide_eq_true nd] at er ⊢
          refine ⟨false, rfl, iteF ?_⟩
          exact ⟨_, rfl, q ns er l H5 X nl0 ((X4.trans X5) _ _ hl3)⟩
        · rw [decide_eq_false nd] at er ⊢
          exact ⟨true, rfl, qe er _ X⟩
    · refine ⟨_, rfl, rfl, _, rfl, ?_⟩
      rw [decide_eq_false nx]
      refine iteF ?_
      refine ⟨_, rfl, by show 2 ≤ sizeLine; decide, fun tp ntp => ?_⟩
      have X1 := ex_new (o := .tup [.ty "list", .ty "tuple"]) ntp
      exact ⟨x, tp, _, t, _, false, rfl, upd_same, .cons (.ty "list") (.cons (.ty "tuple") .nil), tyX_mono X1 ty, kt, false, rfl, qe rfl _ X1⟩

theorem ok_told_days {P : Program} {w : World} {K : PySem.W.Frag} {mg : Str → Option Value} {base : Heap} (T : Env K mg) : Fc P w K mg base 4 (He.ga K "told_days") [] (sp_told_days K) := by
  obtain ⟨fd, D, F⟩ := fb_told_days T
  exact F.all (D.bindsN fun _ _ _ _ _ _ us hl => match us, hl with | [_], _ => rfl)
end
section
def optV : Option Nat → V
  | none => .non
  | some n => .int (n : Int)
/-- a last day as it is told: r what it is, none where it is none -/
def TillG (K : PySem.W.Frag) (H : Hp) (x : V) (s : Nat) (r : Option (Option Nat)) : Prop := (x = .non ∧ r = some none) ∨ (x ≠ .non ∧ Cl K H x ∧ ((∃ n : Nat, x = .int n ∧ r = if s ≤ n then some (some n) else none) ∨ (isM x = false ∧ r = none)))
def sp_want_till (K : PySem.W.Frag) : Sp := fun vs H Q E => ∃ (s : Nat) (x : V) (r : Option (Option Nat)), vs = [.int s, x] ∧ TillG K H x s r ∧ (r ≠ none → Q .non H) ∧ (r = none → E (.ref (He.ga K "NoDays")) none H)
theorem fb_want_till {P : Program} {w : World} {K : PySem.W.Frag} {mg : Str → Option Value} {base : Heap} (T : Env K mg) : ∃ fd, FunD K "want_till" "want_till" (defArgs s_want_till) (defBody s_want_till) (defScope s_want_till) [] [] (He.ga K "want_till") fd ∧ Fb P w K mg base 4 (He.ga K "want_till") fd ["since", "till"] (sp_want_till K) := by
  obtain ⟨fd, F⟩ := T.f_want_till
  refine ⟨fd, F, fb_of F sc_want_till (fun vs H Q E h => ?_) (fun cdv A outer s H vs Q E hr h => ?_)⟩
  · obtain ⟨s, x, r, rfl, _⟩ := h
    rfl
  · obtain ⟨s, x, r, rfl, ht, q, qe⟩ := h
    refine ⟨_, (pss_one (ps_if (pt_cmpR op_notN (pv 1) pe_non (nomark _))
      (pss_cons (ps_expr (c_call (ok_want_day T) (hr.mono (by decide)) T.g_want_day T.k_want_day (takes_of rfl rfl rfl rfl) (pa_cons (pv 1) pa_nil)))
      (pss_one (ps_if (pt_cmpR op_lt (pv 1) (pv 0) (nomark _))
      (pss_one (ps_raise rfl (takes_of rfl rfl rfl rfl) (pmk_own PySem.F.excBase_ValueError T.x_NoDays.x T.g_NoDays T.x_NoDays.kp (raises_own T.x_NoDays.sub T.x_NoDays.ty) rfl)))
      pss_nil)))
      pss_nil)), ?_⟩
    rcases ht with ⟨rfl, rfl⟩ | ⟨nx, c, ⟨n, rfl, rfl⟩ | ⟨hm, rfl⟩⟩
    · exact ⟨_, rfl, rfl, _, rfl, q (by simp)⟩
    · refine ⟨_, rfl, rfl, _, rfl, ?_⟩
      refine ⟨_, rfl, _, rfl, cl_int _, fun _ => ?_, isM_no⟩
      refine ⟨_, rfl, _, rfl, _, _, rfl, rfl, _, rfl, ?_⟩
      by_cases c1 : s ≤ n
      · rw [decide_eq_false (show ¬ ((n : Nat) : Int) < ((s : Nat) : Int) by omega)]
        exact q (by rw [if_pos c1]; simp)
      · rw [decide_eq_true (show ((n : Nat) : Int) < ((s : Nat) : Int) by omega)]
        exact qe (if_neg c1)
    · refine ⟨_, rfl, rfl, _, rfl, ?_⟩
      rw [decide_eq_false nx]
      refine iteT ?_
      exact ⟨_, rfl, x, rfl, c, fun e => absurd (hm.symm.trans e) (by decide), fun _ => qe rfl⟩

theorem ok_want_till {P : Program} {w : World} {K : PySem.W.Frag} {mg : Str → Option Value} {base : Heap} (T : Env K mg) : Fc P w K mg base 4 (He.ga K "want_till") [] (sp_want_till K) := by
  obtain ⟨fd, D, F⟩ := fb_want_till T
  exact F.all (D.bindsN fun _ _ _ _ _ _ us hl => match us, hl with | [_, _], _ => rfl)
end
section
abbrev DaysC (K : PySem.W.Frag) : Addr := He.ga K "Days"
structure DaysD where
  bits : List Nat
  since : Nat
  till : Option Nat
  out : List Nat
  also : List Nat
def DaysD.ok (D : DaysD) : Prop := sgn D.bits = true ∧ (∀ u, D.till = some u → D.since ≤ u) ∧ D.out.length ≤ 8 ∧ D.also.length ≤ 8 ∧ D.out.Nodup ∧ D.also.Nodup ∧ ∀ n ∈ D.also, n ∉ D.out
def dayF (r po pa : Addr) (D : DaysD) : List (Str × V) := [("ring", .ref r), ("since", .int (D.since : Nat)), ("till", optV D.till), ("out", .ref po), ("also", .ref pa)]
/-- at a Days of these -/
def DaysAt (K : PySem.W.Frag) (H : Hp) (a : Addr) (D : DaysD) : Prop := ∃ dx r po pa, H a = some (.ins (DaysC K) dx (dayF r po pa D)) ∧ RingAt K H r D.bits ∧ H po = some (.tup (natV (srtN D.out))) ∧ H pa = some (.tup (natV (srtN D.also)))
theorem DayL.keep {K : PySem.W.Frag} {H H' : Hp} {x : V} {ns : List Nat} (h : DayL K H x ns) (k : ∀ b o, (∀ C d f, o ≠ .ins C d f) → H b = some o → H' b = some o) : DayL K H' x ns := by
  rcases h with h | ⟨a, rfl, h | h, r⟩
  · exact .inl h
  · exact .inr ⟨a, rfl, .inl (k _ _ (fun _ _ _ z => by cases z) h), r⟩
  · exact .inr ⟨a, rfl, .inr (k _ _ (fun _ _ _ z => by cases z) h), r⟩
theorem RingAt.mono {K : PySem.W.Frag} {H H' : Hp} {a : Addr} {l : List Nat} (h : RingAt K H a l) (e : Ex H H') : RingAt K H' a l := let ⟨dx, h⟩ := h; ⟨dx, e _ _ h⟩
theorem DaysAt.mono {K : PySem.W.Frag} {H H' : Hp} {a : Addr} {D : DaysD} (h : DaysAt K H a D) (e : Ex H H') : DaysAt K H' a D := let ⟨dx, r, po, pa, h1, h2, h3, h4⟩ := h; ⟨dx, r, po, pa, e _ _ h1, h2.mono e, e _ _ h3, e _ _ h4⟩
/-- what is handed in for a ring -/
def RingG (K : PySem.W.Frag) (H : Hp) (x : V) (r : Option (List Nat)) : Prop := (∃ a l, x = .ref a ∧ RingAt K H a l ∧ sgn l = true ∧ r = some l) ∨ (∃ t, TyX K H x t ∧ PySem.W.kitOne K t (.ref (RingC K)) = some false ∧ r = none)
/-- what Days are made of, and what becomes of it -/
def DaysArg (K : PySem.W.Frag) (H : Hp) (xr xs xt xo xa : V) (R : Option DaysD) : Prop := ∃ rb, RingG K H xr rb ∧ (rb = none ∧ R = none ∨ ∃ bits, rb = some bits ∧ Cl K H xs ∧ (isM xs = false ∧ R = none ∨ ∃ s : Nat, xs = .int s ∧ ∃ rt, TillG K H xt s rt ∧ (rt = none ∧ R = none ∨ ∃ t, rt = some t ∧
  ∃ ro, DayG K H xo ro ∧ (ro = none ∧ R = none ∨ ∃ o, ro = some o ∧ ∃ ra, DayG K H xa ra ∧ (ra = none ∧ R = none ∨ ∃ al, ra = some al ∧ R = if (al.any fun d => decide (d ∈ o)) = true then none else some ⟨bits, s, t, o, al⟩)))))
theorem TillG.mono {K : PySem.W.Frag} {H H' : Hp} {x : V} {s : Nat} {r : Option (Option Nat)} (h : TillG K H x s r) (e : Ex H H') : TillG K H' x s r := by
  rcases h with h | ⟨h1, h2, h3⟩
  · exact .inl h
  · exact .inr ⟨h1, h2.mono e, h3⟩
theorem TillG.val {K : PySem.W.Frag} {H : Hp} {x : V} {s : Nat} {t : Option Nat} (h : TillG K H x s (some t)) : x = optV t ∧ ∀ u, t = some u → s ≤ u := by
  rcases h with ⟨h1, h2⟩ | ⟨h1, h2, ⟨n, h3, h4⟩ | ⟨h3, h4⟩⟩
  · cases h2
    exact ⟨h1, fun u hu => by cases hu⟩
  · by_cases c : s ≤ n
    · rw [if_pos c] at h4
      cases h4
      exact ⟨h3, fun u hu => by cases hu; exact c⟩
    · rw [if_neg c] at h4
      cases h4
  · cases h4
theorem DayG.ok {K : PySem.W.Frag} {H : Hp} {x : V} {o : List Nat} (h : DayG K H x (some o)) : o.length ≤ 8 ∧ o.Nodup := by
  rcases h with ⟨_, h2⟩ | ⟨a, xs, h1, h2, h3, h4, h5⟩ | ⟨_, _, h4⟩
  · cases h2
    exact ⟨by decide, List.nodup_nil⟩
  · unfold dayList at h5
    split at h5
    · rename_i c
      cases h5
      obtain ⟨c1, c2⟩ := Bool.and_eq_true_iff.mp c
      obtain ⟨c3, c4⟩ := Bool.and_eq_true_iff.mp c1
      exact ⟨by rw [List.length_map]; exact of_decide_eq_true c3, of_decide_eq_true c2⟩
    · cases h5
  · cases h4
theorem DaysArg.ok {K : PySem.W.Frag} {H : Hp} {xr xs xt xo xa : V} {D : DaysD} (h : DaysArg K H xr xs xt xo xa (some D)) : D.ok := by
  obtain ⟨rb, h1, h⟩ := h
  rcases h with ⟨_, h⟩ | ⟨bits, rfl, _, h⟩
  · cases h
  rcases h with ⟨_, h⟩ | ⟨s, _, rt, h2, h⟩
  · cases h
  rcases h with ⟨_, h⟩ | ⟨t, rfl, ro, h3, h⟩
  · cases h
  rcases h with ⟨_, h⟩ | ⟨o, rfl, ra, h4, h⟩
  · cases h
  rcases h with ⟨_, h⟩ | ⟨al, rfl, h⟩
  · cases h
  split at h
  · cases h
  · rename_i c
    cases h
    have hs : sgn bits = true := by
      rcases h1 with ⟨a, l, _, _, h5, h6⟩ | ⟨_, _, _, h6⟩
      · cases h6
        exact h5
      · cases h6
    refine ⟨hs, h2.val.2, h3.ok.1, h4.ok.1, h3.ok.2, h4.ok.2, fun n hn ho => c ?_⟩
    exact List.any_eq_true.mpr ⟨n, hn, decide_eq_true ho⟩
def sp_Days_init (K : PySem.W.Frag) : Sp := fun vs H Q E => ∃ a dx xr xs xt xo xa R H0, vs = [.ref a, xr, xs, xt, xo, xa] ∧ H a = some (.ins (DaysC K) dx []) ∧ H0 a = none ∧ Ex H0 H ∧ DaysArg K H0 xr xs xt xo xa R ∧ (∀ D, R = some D → ∀ H', Oth a H H' → DaysAt K H' a D → Q .non H') ∧ (R = none → ∀ H', Oth a H H' → E (.ref (He.ga K "NoDays")) none H')
theorem fb_Days_init {P : Program} {w : World} {K : PySem.W.Frag} {mg : Str → Option Value} {base : Heap} (T : Env K mg) : ∃ fd, FunD K "__init__" "Days.__init__" (defArgs s_Days_init) (defBody s_Days_init) (defScope s_Days_init) [.int (0), .non, .non, .non] [] (He.ma K (He.ga K "Days") "__init__") fd ∧ Fb P w K mg base 5 (He.ma K (He.ga K "Days") "__init__") fd ["self", "ring", "since", "till", "out", "also"] (sp_Days_init K) := by
  obtain ⟨fd, F⟩ := T.f_Days_init
  refine ⟨fd, F, fb_of F sc_Days_init (fun vs H Q E h => ?_) (fun cdv A outer s H vs Q E hr h => ?_)⟩
  · obtain ⟨a, dx, xr, xs, xt, xo, xa, R, H0, rfl, _⟩ := h
    rfl
  · obtain ⟨a, dx, xr, xs, xt, xo, xa, R, H0, rfl, ha, na0, X0, hA, q, qe⟩ := h
    refine ⟨_, (pss_cons (ps_if (pt_not (pt_val (pe_callB call_isi (by rfl) T.n_isinstance (by decide +kernel) (pa_cons (pv 1) (pa_cons (pe_glob (v := .ref _) (by rfl) T.g_Ring rfl) pa_nil)))))
      (pss_one (ps_raise rfl (takes_of rfl rfl rfl rfl) (pmk_own PySem.F.excBase_ValueError T.x_NoDays.x T.g_NoDays T.x_NoDays.kp (raises_own T.x_NoDays.sub T.x_NoDays.ty) rfl)))
      pss_nil)
      (pss_cons (ps_expr (c_call (ok_want_day T) (hr.mono (by decide)) T.g_want_day T.k_want_day (takes_of rfl rfl rfl rfl) (pa_cons (pv 2) pa_nil)))
      (pss_cons (ps_expr (c_call (ok_want_till T) (hr.mono (by decide)) T.g_want_till T.k_want_till (takes_of rfl rfl rfl rfl) (pa_cons (pv 2) (pa_cons (pv 3) pa_nil))))
      (pss_cons (ps_fld (pv 0) (pv 1) rfl)
      (pss_cons (ps_fld (pv 0) (pv 2) rfl)
      (pss_cons (ps_fld (pv 0) (pv 3) rfl)
      (pss_cons (ps_fld (pv 0) (c_call (ok_told_days T) (hr.mono (by decide)) T.g_told_days T.k_told_days (takes_of rfl rfl rfl rfl) (pa_cons (pv 4) pa_nil)) rfl)
      (pss_cons (ps_fld (pv 0) (c_call (ok_told_days T) (hr.mono (by decide)) T.g_told_days T.k_told_days (takes_of rfl rfl rfl rfl) (pa_cons (pv 5) pa_nil)) rfl)
      (pss_one (ps_if (pt_val (pe_callB (cr_any rfl) (by rfl) T.n_any (by decide +kernel) (pa_cons (pe_lc (own := [("day", 6)]) (by rfl) sc_Days_init.nd (pi_tup (pe_fld (pv 0) (by rfl))) (blkOk_by (own := [("day", 6)]) (N := ["self", "ring", "since", "till", "out", "also", "day"]) (sc := defScope s_Days_init) (by decide +kernel)) (fun _ _ _ _ _ => (pg_name (i := 6) sc_Days_init.nd rfl (Or.inl rfl))) (fun _ _ _ _ _ => pts_nil) (fun _ _ _ _ _ => (pe_cmpR (op_in_seqK K) (pv 6) (pe_fldK K (pv 0) (by rfl)) (by rfl)))) pa_nil)))
      (pss_one (ps_raise rfl (takes_of rfl rfl rfl rfl) (pmk_own PySem.F.excBase_ValueError T.x_NoDays.x T.g_NoDays T.x_NoDays.kp (raises_own T.x_NoDays.sub T.x_NoDays.ty) rfl)))
      pss_nil)))))))))), ?_⟩
    obtain ⟨rb, h1, hA⟩ := hA
    have ex0 : ∀ {H' : Hp}, Oth a H H' → Ex H0 H' := fun {H'} o => Oth.ex X0 na0 o
    rcases h1 with ⟨r, l, rfl, ⟨dr, hr3⟩, hs, rfl⟩ | ⟨t, ty, kt, rfl⟩
    · rcases hA with ⟨z, _⟩ | ⟨bits, e, cs, hA⟩
      · cases z
      cases e
      refine ⟨_, rfl, .ref r, .ref (RingC K), _, _, true, rfl, .own _, ty_ins T.i_Ring T.c_Ring (X0 _ _ hr3), T.kit_Ring_Ring, true, rfl, iteF ?_⟩
      rcases hA with ⟨hm, rfl⟩ | ⟨s, rfl, rt, h2, hA⟩
      · exact ⟨_, rfl, xs, rfl, cs.mono X0, fun e => absurd (hm.symm.trans e) (by decide), fun _ => qe rfl H (Oth.refl _ _)⟩
      refine ⟨_, rfl, _, rfl, cl_int _, fun _ => ?_, isM_no⟩
      rcases hA with ⟨rfl, rfl⟩ | ⟨t, rfl, ro, h3, hA⟩
      · exact ⟨_, rfl, _, rfl, s, xt, none, rfl, h2.mono X0, fun z => absurd rfl z, fun _ => qe rfl H (Oth.refl _ _)⟩
      refine ⟨_, rfl, _, rfl, s, xt, some t, rfl, h2.mono X0, fun _ => ?_, fun z => nomatch z⟩
      obtain ⟨rfl, ht⟩ := h2.val
      refine ⟨_, rfl, _, rfl, a, _, dx, [], rfl, ha, T.c_Days, T.a_Days_ring, by decide, ?_⟩
      refine ⟨_, rfl, _, rfl, a, _, dx, _, rfl, upd_same, T.c_Days, T.a_Days_since, Nat.le_of_ble_eq_true rfl, ?_⟩
      refine ⟨_, rfl, _, rfl, a, _, dx, _, rfl, upd_same, T.c_Days, T.a_Days_till, Nat.le_of_ble_eq_true rfl, ?_⟩
      rw [upd_upd, upd_upd]
      have O3 := fun o => (Oth.refl a H).upd (o := o)
      rcases hA with ⟨rfl, rfl⟩ | ⟨o, rfl, ra, h4, hA⟩
      · exact ⟨_, rfl, xo, none, rfl, h3.mono (ex0 (O3 _)), (fun ns z => nomatch z), fun _ H4 X4 => qe rfl H4 ((O3 _).trans (ex_oth X4))⟩
      refine ⟨_, rfl, xo, some o, rfl, h3.mono (ex0 (O3 _)), fun ns ens po H4 X4 npo hpo => ?_, fun z => nomatch z⟩
      cases ens
      have O4 := (O3 _).trans (ex_oth X4)
      have ha4 := X4 _ _ upd_same
      refine ⟨_, rfl, a, _, dx, _, rfl, ha4, T.c_Days, T.a_Days_out, Nat.le_of_ble_eq_true rfl, ?_⟩
      have poa : po ≠ a := fun z => by
        rw [z, upd_same] at npo
        cases npo
      have O5 := fun o => O4.upd (o := o)
      rcases hA with ⟨rfl, rfl⟩ | ⟨al, rfl, eR⟩
      · exact ⟨_, rfl, xa, none, rfl, h4.mono (ex0 (O5 _)), (fun ns z => nomatch z), fun _ H6 X6 => qe rfl H6 ((O5 _).trans (ex_oth X6))⟩
      refine ⟨_, rfl, xa, some al, rfl, h4.mono (ex0 (O5 _)), fun ns ens pa H6 X6 npa hpa => ?_, fun z => nomatch z⟩
      cases ens
      have ha6 := X6 _ _ upd_same
      refine ⟨_, rfl, a, _, dx, _, rfl, ha6, T.c_Days, T.a_Days_also, Nat.le_of_ble_eq_true rfl, ?_⟩
      have paa : pa ≠ a := fun z => by
        rw [z, upd_same] at npa
        cases npa
      have O7 := fun o => ((O5 _).trans (ex_oth X6)).upd (o := o)
      have O7 := O7 (.ins (DaysC K) dx (dayF r po pa ⟨l, s, t, o, al⟩))
      have h7 : upd H6 a (.ins (DaysC K) dx (dayF r po pa ⟨l, s, t, o, al⟩)) a = some (.ins (DaysC K) dx (dayF r po pa ⟨l, s, t, o, al⟩)) := upd_same
      have hpo7 : upd H6 a (.ins (DaysC K) dx (dayF r po pa ⟨l, s, t, o, al⟩)) po = some (.tup (natV (srtN o))) := by
        rw [upd_ne poa]
        exact X6 _ _ (by rw [upd_ne poa]; exact hpo)
      have hpa7 : upd H6 a (.ins (DaysC K) dx (dayF r po pa ⟨l, s, t, o, al⟩)) pa = some (.tup (natV (srtN al))) := by
        rw [upd_ne paa]
        exact hpa
      have ra : r ≠ a := fun z => by
        rw [z, na0] at hr3
        cases hr3
      rw [show putF "also" (V.ref pa) (putF "out" (V.ref po) (putF "till" (optV t) (putF "since" (V.int (s : Nat)) (putF "ring" (V.ref r) [])))) = dayF r po pa ⟨l, s, t, o, al⟩ from rfl]
      generalize upd H6 a (.ins (DaysC K) dx (dayF r po pa ⟨l, s, t, o, al⟩)) = H7 at O7 h7 hpo7 hpa7 ⊢
      have ol := h4.ok.1
      have sl := srtN_len al
      refine ⟨_, rfl, a, _, dx, _, _, rfl, h7, T.c_Days, T.a_Days_also, rfl, pa, rfl, ⟨_, sq_tup hpa7⟩, fun A7 nA => lc_on (srtN al) (fun n : Nat => V.int n) L2.walk_tup (fun d => some (.bl (decide (d ∈ o)))) (fun H' => Ex H7 H') (fun H' z e => ex_mut e nA) (.refl _) (by omega) (fun H' e => sq_tup (e _ _ hpa7)) (fun i n H8 acc N hn X8 hD la k => ?_) fun H8 X8 d8 => ?_⟩
      · refine ⟨rfl, _, rfl, _, rfl, a, _, dx, _, _, rfl, X8 _ _ h7, T.c_Days, T.a_Days_out, rfl, po, _, rfl, .inr (sq_tup (X8 _ _ hpo7)), rfl, flat_nat _, acc, hD, la, ?_⟩
        rw [inV_nat, mem_srtN]
        exact k H8 X8 hD
      · have eb : (srtN al).filterMap (fun d => some (V.bl (decide (d ∈ o)))) = ((srtN al).map fun d => decide (d ∈ o)).map V.bl := by
          rw [List.filterMap_eq_map', List.map_map]
          rfl
        rw [eb] at d8
        refine ⟨A7, _, rfl, sq_lst d8, ?_⟩
        have ea : ((srtN al).map fun d => decide (d ∈ o)).any id = al.any fun d => decide (d ∈ o) := by
          rw [Bool.eq_iff_iff, List.any_eq_true, List.any_eq_true]
          constructor
          · rintro ⟨b, hb, e⟩
            obtain ⟨d, hd, rfl⟩ := List.mem_map.mp hb
            exact ⟨d, (srtN_mem d al).mp hd, e⟩
          · rintro ⟨d, hd, e⟩
            exact ⟨_, List.mem_map.mpr ⟨d, (srtN_mem d al).mpr hd, rfl⟩, e⟩
        rw [ea]
        have O8 := O7.trans (ex_oth X8)
        cases c : (al.any fun d => decide (d ∈ o)) with
        | true =>
          rw [c] at eR
          exact ⟨true, rfl, qe eR H8 O8⟩
        | false =>
          rw [c] at eR
          refine ⟨false, rfl, ?_⟩
          exact q _ eR H8 O8 ⟨dx, r, po, pa, X8 _ _ h7, ⟨dr, O8 _ _ ra (X0 _ _ hr3)⟩, X8 _ _ hpo7, X8 _ _ hpa7⟩
    · rcases hA with ⟨_, rfl⟩ | ⟨bits, e, _⟩
      · exact ⟨_, rfl, xr, .ref (RingC K), _, _, false, rfl, .own _, tyX_mono X0 ty, kt, false, rfl, qe rfl H (Oth.refl _ _)⟩
      · cases e
theorem days_new {K : PySem.W.Frag} {H : Hp} {x dx r : Addr} {xo xa : V} {D : DaysD} {Q : VK} {E : XK} (nx : H x = none) (nd : H dx = none) (ne : dx ≠ x) (hr : RingAt K H r D.bits) (hD : D.ok) (ho : DayL K H xo D.out) (ha : DayL K H xa D.also) (q : ∀ H', Ex H H' → DaysAt K H' x D → Q .non H') :
    sp_Days_init K [.ref x, .ref r, .int (D.since : Nat), optV D.till, xo, xa] (upd (upd H dx (.own x)) x (.ins (DaysC K) dx [])) Q E := by
  have X1 := ex_made (o1 := .own x) (o2 := .ins (DaysC K) dx []) nx nd ne
  obtain ⟨hs, ht, lo, la, no, na, hdj⟩ := id hD
  refine ⟨x, dx, _, _, _, xo, xa, some D, H, rfl, upd_same, nx, X1, ?_, fun D' e H' k d => ?_, fun z => nomatch z⟩
  · refine ⟨some D.bits, .inl ⟨r, D.bits, rfl, hr, hs, rfl⟩, .inr ⟨D.bits, rfl, cl_int _, .inr ⟨D.since, rfl, some D.till, ?_, .inr ⟨D.till, rfl, some D.out, ho.gen, .inr ⟨D.out, rfl, some D.also, ha.gen, .inr ⟨D.also, rfl, ?_⟩⟩⟩⟩⟩⟩
    · cases hT : D.till with
      | none => exact .inl ⟨rfl, rfl⟩
      | some u => exact .inr ⟨(fun z => nomatch z), cl_int _, .inl ⟨u, rfl, by rw [if_pos (ht u hT)]⟩⟩
    · have : (D.also.any fun d => decide (d ∈ D.out)) = false := by
        rw [List.any_eq_false]
        intro d hd
        simpa using hdj d hd
      rw [this]
      rfl
  · cases e
    exact q H' (fun b o e => k b o (ne_of_none e nx) (X1 _ _ e)) d

theorem ok_Days_init_3 {P : Program} {w : World} {K : PySem.W.Frag} {mg : Str → Option Value} {base : Heap} (T : Env K mg) : Fc P w K mg base 5 (He.ma K (He.ga K "Days") "__init__") [] (fun vs H Q E => vs.length = 3 + ([] : List Str).length ∧ sp_Days_init K (pick [.inl 0, .inl 1, .inl 2, .inr 1, .inr 2, .inr 3] vs [.int (0), .non, .non, .non]) H Q E) := by
  obtain ⟨fd, D, F⟩ := fb_Days_init T
  exact Fb.shape D F 3 [] (fun us its => pick [.inl 0, .inl 1, .inl 2, .inr 1, .inr 2, .inr 3] us its) (by decide) (fun r1 r2 => pick_vals _ r1 r2) (fun T kV doc pm an cdv ct us ws its h1 h2 h3 => match us, ws, its, h1, h2, h3 with | [_, _, _], [], [_, _, _, _], _, _, _ => ⟨_, rfl, rfl⟩)
theorem ok_Days_init {P : Program} {w : World} {K : PySem.W.Frag} {mg : Str → Option Value} {base : Heap} (T : Env K mg) : Fc P w K mg base 5 (He.ma K (He.ga K "Days") "__init__") [] (fun vs H Q E => vs.length = 6 + ([] : List Str).length ∧ sp_Days_init K (pick [.inl 0, .inl 1, .inl 2, .inl 3, .inl 4, .inl 5] vs [.int (0), .non, .non, .non]) H Q E) := by
  obtain ⟨fd, D, F⟩ := fb_Days_init T
  exact Fb.shape D F 6 [] (fun us its => pick [.inl 0, .inl 1, .inl 2, .inl 3, .inl 4, .inl 5] us its) (by decide) (fun r1 r2 => pick_vals _ r1 r2) (fun T kV doc pm an cdv ct us ws its h1 h2 h3 => match us, ws, its, h1, h2, h3 with | [_, _, _, _, _, _], [], [_, _, _, _], _, _, _ => ⟨_, rfl, rfl⟩)
end
section
def dHas (D : DaysD) (d : Nat) : Bool := decide (d ∈ D.also) || (!(decide (d < D.since) || ((match D.till with | some t => decide (t < d) | none => false) || decide (d ∈ D.out))) && (D.bits.getD (d % D.bits.length) 0 == 49))
def sp_Days_has (K : PySem.W.Frag) : Sp := fun vs H Q E => ∃ a D x, vs = [.ref a, x] ∧ DaysAt K H a D ∧ D.ok ∧ Cl K H x ∧ (∀ d : Nat, x = .int d → Q (.bl (dHas D d)) H) ∧ (isM x = false → E (.ref (He.ga K "NoDays")) none H)
theorem fb_Days_has {P : Program} {w : World} {K : PySem.W.Frag} {mg : Str → Option Value} {base : Heap} (T : Env K mg) : ∃ fd, FunD K "has" "Days.has" (defArgs s_Days_has) (defBody s_Days_has) (defScope s_Days_has) [] [] (He.ma K (He.ga K "Days") "has") fd ∧ Fb P w K mg base 5 (He.ma K (He.ga K "Days") "has") fd ["self", "day"] (sp_Days_has K) := by
  obtain ⟨fd, F⟩ := T.f_Days_has
  refine ⟨fd, F, fb_of F sc_Days_has (fun vs H Q E h => ?_) (fun cdv A outer s H vs Q E hr h => ?_)⟩
  · obtain ⟨a, D, x, rfl, _⟩ := h
    rfl
  · obtain ⟨a, D, x, rfl, ha, hD, c, q, qe⟩ := h
    refine ⟨_, (pss_cons (ps_expr (c_call (ok_want_day T) (hr.mono (by decide)) T.g_want_day T.k_want_day (takes_of rfl rfl rfl rfl) (pa_cons (pv 1) pa_nil)))
      (pss_cons (ps_if (pt_cmpR op_in_seq (pv 1) (pe_fld (pv 0) (by rfl)) (by rfl))
      (pss_one (ps_ret pe_bl))
      pss_nil)
      (pss_cons (ps_if (PW.pt (pw_or (pt_cmpR op_lt (pv 1) (pe_fld (pv 0) (by rfl)) (nomark _)) (pw_or (PW.pt (pw_and (pt_cmpR op_notN (pe_fld (pv 0) (by rfl)) pe_non (nomark _)) (pw_and1 (pt_cmpR op_gt (pv 1) (pe_fld (pv 0) (by rfl)) (nomark _))))) (pw_or1 (pt_cmpR op_in_seq (pv 1) (pe_fld (pv 0) (by rfl)) (by rfl))))))
      (pss_one (ps_ret pe_bl))
      pss_nil)
      (pss_one (ps_ret (c_meth (pe_fld (pv 0) (by rfl)) T.c_Ring T.m_Ring_rings (ok_Ring_rings T) (hr.mono (by decide)) (takes_of rfl rfl rfl rfl) (pa_cons (pv 1) pa_nil))))))), ?_⟩
    obtain ⟨dx, r, po, pa, h1, ⟨dr, h2⟩, h3, h4⟩ := ha
    obtain ⟨hs, ht, _⟩ := hD
    refine ⟨_, rfl, x, rfl, c, fun e => ?_, qe⟩
    obtain ⟨i, rfl, i0⟩ := isM_w e
    obtain ⟨d, rfl⟩ := Int.eq_ofNat_of_zero_le i0
    have z := q d rfl
    unfold dHas at z
    have e3 := mem_srtN d D.also
    have e4 := mem_srtN d D.out
    refine ⟨_, rfl, _, rfl, a, _, dx, _, _, rfl, h1, T.c_Days, T.a_Days_also, rfl, pa, _, rfl, .inr (sq_tup h4), rfl, flat_nat _, _, rfl, ?_⟩
    rw [inV_nat, e3]
    by_cases c1 : d ∈ D.also
    · rw [decide_eq_true c1] at z ⊢
      exact z
    · rw [decide_eq_false c1] at z ⊢
      refine iteF ?_
      refine ⟨_, rfl, _, rfl, a, _, dx, _, _, rfl, h1, T.c_Days, T.a_Days_since, rfl, _, _, rfl, rfl, _, rfl, ?_⟩
      by_cases c2 : d < D.since
      · rw [decide_eq_true (show ((d : Nat) : Int) < ((D.since : Nat) : Int) by omega)]
        rw [decide_eq_true c2] at z
        exact z
      · rw [decide_eq_false (show ¬ ((d : Nat) : Int) < ((D.since : Nat) : Int) by omega)]
        rw [decide_eq_false c2] at z
        refine iteF ?_
        have fin : Q (.bl (false || (!(false || (false || decide (d ∈ D.out))) && (D.bits.getD (d % D.bits.length) 0 == 49)))) H → tTest (tOp (rIn K false) (tVar 1) (tFld K (tVar 0) "out")) (L2.start ["self", "day"] [.ref a, .int (d : Int)]) H fun b H1 => if b = true then Q (.bl false) H1 else
            tMt (He.ga K "Ring") "rings" (sp_Ring_rings K) (fun cls d x H => E cls d H) (tFld K (tVar 0) "ring") (tCons (tVar 1) tNil) (L2.start ["self", "day"] [.ref a, .int (d : Int)]) H1 Q := fun z => by
          refine ⟨_, rfl, _, rfl, a, _, dx, _, _, rfl, h1, T.c_Days, T.a_Days_out, rfl, po, _, rfl, .inr (sq_tup h3), rfl, flat_nat _, _, rfl, ?_⟩
          rw [inV_nat, e4]
          by_cases c3 : d ∈ D.out
          · rw [decide_eq_true c3] at z ⊢
            exact z
          · rw [decide_eq_false c3] at z ⊢
            refine iteF ?_
            refine ⟨_, rfl, a, _, dx, _, _, rfl, h1, T.c_Days, T.a_Days_ring, rfl, r, dr, _, rfl, h2, rfl, _, rfl, r, D.bits, _, rfl, ⟨dr, h2⟩, hs, cl_int _, fun d' ed => ?_, isM_no⟩
            have ed2 : d = d' := by injection ed with ed; omega
            subst ed2
            exact z
        cases hT : D.till with
        | none =>
          rw [hT] at z
          refine ⟨_, rfl, a, _, dx, _, _, rfl, h1, T.c_Days, T.a_Days_till, rfl, rfl, _, rfl, ?_⟩
          rw [show optV D.till = .non by rw [hT]; rfl]
          exact fin z
        | some t =>
          rw [hT] at z
          refine ⟨_, rfl, a, _, dx, _, _, rfl, h1, T.c_Days, T.a_Days_till, rfl, rfl, _, rfl, ?_⟩
          rw [show optV D.till = .int (t : Nat) by rw [hT]; rfl]
          refine iteT ?_
          refine ⟨_, rfl, _, rfl, a, _, dx, _, _, rfl, h1, T.c_Days, T.a_Days_till, rfl, _, _, rfl, (show optV D.till = .int (t : Nat) by rw [hT]; rfl), _, rfl, ?_⟩
          by_cases c4 : t < d
          · rw [decide_eq_true (show ((t : Nat) : Int) < ((d : Nat) : Int) by omega)]
            have z2 : Q (.bl (false || (!(false || (decide (t < d) || decide (d ∈ D.out))) && (D.bits.getD (d % D.bits.length) 0 == 49)))) H := z
            rw [decide_eq_true c4] at z2
            exact z2
          · rw [decide_eq_false (show ¬ ((t : Nat) : Int) < ((d : Nat) : Int) by omega)]
            have z2 : Q (.bl (false || (!(false || (decide (t < d) || decide (d ∈ D.out))) && (D.bits.getD (d % D.bits.length) 0 == 49)))) H := z
            rw [decide_eq_false c4] at z2
            exact fin z2

theorem ok_Days_has {P : Program} {w : World} {K : PySem.W.Frag} {mg : Str → Option Value} {base : Heap} (T : Env K mg) : Fc P w K mg base 5 (He.ma K (He.ga K "Days") "has") [] (sp_Days_has K) := by
  obtain ⟨fd, D, F⟩ := fb_Days_has T
  exact F.all (D.bindsN fun _ _ _ _ _ _ us hl => match us, hl with | [_, _], _ => rfl)
end
section
def natD (ns : List Nat) : List PyData := ns.map fun n : Nat => PyData.int (n : Int)
theorem dp_nat (K : PySem.W.Frag) (H : Hp) : ∀ ns : List Nat, DpAll K H (natV ns) (natD ns)
  | [] => .nil
  | n :: ns => .cons (.int _) (dp_nat K H ns)
theorem natD_lay : ∀ ns : List Nat, PyData.canLayAll0 (natD ns) = true
  | [] => rfl
  | n :: ns => by
    show (true && PyData.canLayAll0 (natD ns)) = true
    rw [natD_lay ns]
    rfl
theorem natD_dep : ∀ ns : List Nat, PyData.depthAll (natD ns) = 0
  | [] => rfl
  | n :: ns => by
    show max 0 (PyData.depthAll (natD ns)) = 0
    rw [natD_dep ns]
    rfl
theorem shaped_nat (ns : List Nat) : SeqAt.shaped (.list (natD ns)) = true := by
  show (PyData.canLayAll0 (natD ns) && decide (PyData.depthAll (natD ns) + 1 ≤ 64)) = true
  rw [natD_lay, natD_dep]
  rfl
def optD : Option Nat → PyData
  | none => .none
  | some n => .int (n : Int)
theorem dp_opt {K : PySem.W.Frag} {H : Hp} (o : Option Nat) : Dp K H (optV o) (optD o) := by
  cases o with
  | none => exact .non
  | some n => exact .int _
theorem okI_nat {n k : Nat} (h : n < 10 ^ k) (hk : k ≤ 150) : okI ((n : Nat) : Int) = true := decide_eq_true (by
  have h1 : n < 10 ^ 150 := Nat.lt_of_lt_of_le h (Nat.pow_le_pow_right (by decide) hk)
  have e : (10 : Nat) ^ 150 < 10 ^ 200 := by decide +kernel
  show ((n : Nat) : Int).natAbs < 10 ^ 200
  rw [Int.natAbs_natCast]
  omega)
theorem natD_ok {k : Nat} (hk : k ≤ 150) : ∀ ns : List Nat, (∀ n ∈ ns, n < 10 ^ k) → okL (natD ns) = true
  | [], _ => rfl
  | n :: ns, h => by
    show (okI ((n : Nat) : Int) && okL (natD ns)) = true
    rw [okI_nat (h n List.mem_cons_self) hk, natD_ok hk ns fun m hm => h m (List.mem_cons_of_mem _ hm)]
    rfl
theorem natD_sz : ∀ ns : List Nat, szL (natD ns) = 1923 * ns.length
  | [] => rfl
  | n :: ns => by
    show 1921 + 2 + szL (natD ns) = 1923 * (ns.length + 1)
    rw [natD_sz ns]
    omega
theorem shapedT_nat (ns : List Nat) : SeqAt.shaped (.tuple (natD ns)) = true := by
  show (PyData.canLayAll0 (natD ns) && decide (PyData.depthAll (natD ns) + 1 ≤ 64)) = true
  rw [natD_lay, natD_dep]
  rfl

end
section
/-- words, as values -/
def sV (ws : List (List Nat)) : List V := ws.map fun w => V.str (SX.S w)
theorem sV_len (ws : List (List Nat)) : (sV ws).length = ws.length := by
  unfold sV
  rw [List.length_map]
theorem sV_app (a b : List (List Nat)) : sV a ++ sV b = sV (a ++ b) := by
  unfold sV
  rw [List.map_append]
theorem sV_str (ws : List (List Nat)) : sV ws = (ws.map SX.S).map V.str := by
  unfold sV
  rw [List.map_map]
  rfl
abbrev wFrom : List Nat := [102, 114, 111, 109]
abbrev wTo : List Nat := [116, 111]
abbrev wNot : List Nat := [110, 111, 116]
abbrev wAlso : List Nat := [97, 108, 115, 111]
def wTill (D : DaysD) : List (List Nat) := match D.till with
  | some t => [wTo, TL.numL t]
  | none => []
def wSince (D : DaysD) : List (List Nat) := if 0 < D.since then [wFrom, TL.numL D.since] else []
def wList (w : List Nat) (ns : List Nat) : List (List Nat) := if ns = [] then [] else w :: ns.map TL.numL
/-- the words of Days, and their text -/
def dwords (D : DaysD) : List (List Nat) := [D.bits] ++ wSince D ++ wTill D ++ wList wNot (srtN D.out) ++ wList wAlso (srtN D.also)
def dtxt (D : DaysD) : List Nat := TL.joinL [32] (dwords D)
/-- all numbers of D are below 10 ^ k -/
def DaysD.fit (D : DaysD) (k : Nat) : Prop := D.since < 10 ^ k ∧ (∀ t, D.till = some t → t < 10 ^ k) ∧ (∀ n ∈ D.out, n < 10 ^ k) ∧ ∀ n ∈ D.also, n < 10 ^ k
theorem wlen {k : Nat} (hk : 8 ≤ k) {D : DaysD} (hD : D.ok) (hf : D.fit k) : (∀ w ∈ dwords D, w.length ≤ k) ∧ (dwords D).length ≤ 23 := by
  obtain ⟨hs, ht, lo, la, no, na, hdj⟩ := hD
  obtain ⟨f1, f2, f3, f4⟩ := hf
  have hb : 1 ≤ D.bits.length ∧ D.bits.length ≤ 7 := of_decide_eq_true (Bool.and_eq_true_iff.mp hs).1
  have nl : ∀ {n : Nat}, n < 10 ^ k → (TL.numL n).length ≤ k := fun h => TL.numL_len (by omega) h
  have s1 := srtN_len D.out
  have s2 := srtN_len D.also
  have wl : ∀ (w : List Nat) (ns : List Nat), w.length ≤ 4 → (∀ n ∈ ns, n < 10 ^ k) → (∀ x ∈ wList w ns, x.length ≤ k) ∧ (wList w ns).length ≤ ns.length + 1 := fun w ns hw hn => by
    unfold wList
    split
    · exact ⟨fun x hx => (by cases hx), Nat.zero_le _⟩
    · refine ⟨fun x hx => ?_, by simp⟩
      rcases List.mem_cons.mp hx with rfl | hx
      · omega
      · obtain ⟨n, h1, rfl⟩ := List.mem_map.mp hx
        exact nl (hn n h1)
  have w1 := wl wNot (srtN D.out) (by decide) fun n hn => f3 n ((srtN_mem n _).mp hn)
  have w2 := wl wAlso (srtN D.also) (by decide) fun n hn => f4 n ((srtN_mem n _).mp hn)
  have w3 : (∀ x ∈ wSince D, x.length ≤ k) ∧ (wSince D).length ≤ 2 := by
    unfold wSince
    split
    · refine ⟨fun x hx => ?_, Nat.le_refl _⟩
      rcases List.mem_cons.mp hx with rfl | hx
      · show 4 ≤ k
        omega
      · rw [List.mem_singleton.mp hx]
        exact nl f1
    · exact ⟨fun x hx => (by cases hx), Nat.zero_le _⟩
  have w4 : (∀ x ∈ wTill D, x.length ≤ k) ∧ (wTill D).length ≤ 2 := by
    unfold wTill
    cases hT : D.till with
    | none => exact ⟨fun x hx => (by cases hx), Nat.zero_le _⟩
    | some t =>
      refine ⟨fun x hx => ?_, Nat.le_refl _⟩
      rcases List.mem_cons.mp hx with rfl | hx
      · show 2 ≤ k
        omega
      · rw [List.mem_singleton.mp hx]
        exact nl (f2 t hT)
  unfold dwords
  refine ⟨fun w hw => ?_, ?_⟩
  · rcases List.mem_append.mp hw with hw | hw
    · rcases List.mem_append.mp hw with hw | hw
      · rcases List.mem_append.mp hw with hw | hw
        · rcases List.mem_append.mp hw with hw | hw
          · rw [List.mem_singleton.mp hw]
            omega
          · exact w3.1 w hw
        · exact w4.1 w hw
      · exact w1.1 w hw
    · exact w2.1 w hw
  · simp only [List.length_append, List.length_cons, List.length_nil]
    have := w1.2
    have := w2.2
    have := w3.2
    have := w4.2
    omega
theorem sum_len {k : Nat} : ∀ {ws : List (List Nat)}, (∀ w ∈ ws, w.length ≤ k) → ((ws.map SX.S).map (·.length)).sum ≤ k * ws.length
  | [], _ => Nat.zero_le _
  | w :: ws, h => by
    have ih := sum_len (ws := ws) fun x hx => h x (List.mem_cons_of_mem _ hx)
    have h1 := h w List.mem_cons_self
    show (SX.S w).length + ((ws.map SX.S).map (·.length)).sum ≤ k * (ws.length + 1)
    rw [SX.S_len, Nat.mul_add]
    omega
theorem joinL_len {k : Nat} : ∀ {ws : List (List Nat)}, (∀ w ∈ ws, w.length ≤ k) → (TL.joinL [32] ws).length ≤ (k + 1) * ws.length
  | [], _ => Nat.zero_le _
  | [w], h => by
    have := h w List.mem_cons_self
    show w.length ≤ _
    simp
    omega
  | w :: x :: r, h => by
    have ih := joinL_len (ws := x :: r) fun y hy => h y (List.mem_cons_of_mem _ hy)
    have h1 := h w List.mem_cons_self
    have e : TL.joinL [32] (w :: x :: r) = w ++ ([32] ++ TL.joinL [32] (x :: r)) := rfl
    rw [e]
    simp only [List.length_append, List.length_cons, List.length_nil] at ih ⊢
    rw [Nat.mul_add]
    omega
theorem joinL_all {p : Nat → Bool} (h32 : p 32 = true) : ∀ {ws : List (List Nat)}, (∀ w ∈ ws, w.all p = true) → (TL.joinL [32] ws).all p = true
  | [], _ => rfl
  | [w], h => h w List.mem_cons_self
  | w :: x :: r, h => by
    have ih := joinL_all h32 (ws := x :: r) fun y hy => h y (List.mem_cons_of_mem _ hy)
    have e : TL.joinL [32] (w :: x :: r) = w ++ ([32] ++ TL.joinL [32] (x :: r)) := rfl
    rw [e, List.all_append, List.all_append, h w List.mem_cons_self, ih]
    simp [h32]
theorem dwords_all {p : Nat → Bool} (hp : ∀ c, 48 ≤ c → c ≤ 57 → p c = true) (hl : ∀ c, 97 ≤ c → c ≤ 122 → p c = true) {D : DaysD} (hD : D.ok) : ∀ w ∈ dwords D, w.all p = true := by
  have nm : ∀ n, (TL.numL n).all p = true := fun n => List.all_eq_true.mpr fun c hc => by
    have := TL.numL_digits n c hc
    exact hp c this.1 this.2
  have wl : ∀ (w : List Nat) (ns : List Nat), w.all p = true → ∀ x ∈ wList w ns, x.all p = true := fun w ns hw x hx => by
    unfold wList at hx
    split at hx
    · cases hx
    · rcases List.mem_cons.mp hx with rfl | hx
      · exact hw
      · obtain ⟨n, _, rfl⟩ := List.mem_map.mp hx
        exact nm n
  have lt : ∀ w : List Nat, (w.all fun c => decide (97 ≤ c) && decide (c ≤ 122)) = true → w.all p = true := fun w h => List.all_eq_true.mpr fun c hc => by
    obtain ⟨h1, h2⟩ := Bool.and_eq_true_iff.mp (List.all_eq_true.mp h c hc)
    exact hl c (of_decide_eq_true h1) (of_decide_eq_true h2)
  intro w hw
  unfold dwords at hw
  rcases List.mem_append.mp hw with hw | hw
  · rcases List.mem_append.mp hw with hw | hw
    · rcases List.mem_append.mp hw with hw | hw
      · rcases List.mem_append.mp hw with hw | hw
        · rw [List.mem_singleton.mp hw]
          refine List.all_eq_true.mpr fun c hc => ?_
          have := List.all_eq_true.mp (Bool.and_eq_true_iff.mp hD.1).2 c hc
          rcases Bool.or_eq_true_iff.mp this with z | z <;> rw [beq_iff_eq.mp z]
          · exact hp 48 (by decide) (by decide)
          · exact hp 49 (by decide) (by decide)
        · unfold wSince at hw
          split at hw
          · rcases List.mem_cons.mp hw with rfl | hw
            · exact lt _ (by decide)
            · rw [List.mem_singleton.mp hw]
              exact nm _
          · cases hw
      · unfold wTill at hw
        cases hT : D.till with
        | none => rw [hT] at hw; cases hw
        | some t =>
          rw [hT] at hw
          rcases List.mem_cons.mp hw with rfl | hw
          · exact lt _ (by decide)
          · rw [List.mem_singleton.mp hw]
            exact nm _
    · exact wl _ _ (lt _ (by decide)) w hw
  · exact wl _ _ (lt _ (by decide)) w hw

end
section
def sp_Days_str (K : PySem.W.Frag) : Sp := fun vs H Q _ => ∃ a D, vs = [.ref a] ∧ DaysAt K H a D ∧ D.ok ∧ D.fit 150 ∧ ∀ H', Ex H H' → Q (.str (SX.S (dtxt D))) H'
theorem fb_Days_str {P : Program} {w : World} {K : PySem.W.Frag} {mg : Str → Option Value} {base : Heap} (T : Env K mg) : ∃ fd, FunD K "__str__" "Days.__str__" (defArgs s_Days_str) (defBody s_Days_str) (defScope s_Days_str) [] [] (He.ma K (He.ga K "Days") "__str__") fd ∧ Fb P w K mg base 4 (He.ma K (He.ga K "Days") "__str__") fd ["self"] (sp_Days_str K) := by
  obtain ⟨fd, F⟩ := T.f_Days_str
  refine ⟨fd, F, fb_of F sc_Days_str (fun vs H Q E h => ?_) (fun cdv A outer s H vs Q E hr h => ?_)⟩
  · obtain ⟨a, D, rfl, _⟩ := h
    rfl
  · obtain ⟨a, D, rfl, ha, hD, hF, q⟩ := h
    refine ⟨_, (pss_cons (ps_set (i := 1) sc_Days_str.nd rfl (Or.inl rfl) (pe_lst (pa_cons (pe_callTy (call_strO T.m_Ring_str (ok_Ring_str T) (hr.mono (by decide))) (by rfl) T.n_str (by decide +kernel) (pa_cons (pe_fld (pv 0) (by rfl)) pa_nil)) pa_nil)))
      (Evl.pss_cut (ps_if (pt_cmpR op_gt (pe_fld (pv 0) (by rfl)) pe_int (nomark _))
      (pss_one (ps_expr (pe_bm PySem.F.plainAttrs_list PySem.F.slot_list_extend PySem.F.type_list_extend mt_extend (pv 1) (pa_cons (pe_lst (pa_cons (pe_k T.v_FROM) (pa_cons (pe_callTy call_str_int (by rfl) T.n_str (by decide +kernel) (pa_cons (pe_fld (pv 0) (by rfl)) pa_nil)) pa_nil))) pa_nil))))
      pss_nil)
      (Evl.pss_cut (ps_if (pt_cmpR op_notN (pe_fld (pv 0) (by rfl)) pe_non (nomark _))
      (pss_one (ps_expr (pe_bm PySem.F.plainAttrs_list PySem.F.slot_list_extend PySem.F.type_list_extend mt_extend (pv 1) (pa_cons (pe_lst (pa_cons (pe_k T.v_TO) (pa_cons (pe_callTy call_str_int (by rfl) T.n_str (by decide +kernel) (pa_cons (pe_fld (pv 0) (by rfl)) pa_nil)) pa_nil))) pa_nil))))
      pss_nil)
      (pss_cons (ps_for (passes_of rfl) rfl (pi_tup (pe_tup (pa_cons (pe_tup (pa_cons (pe_k T.v_NOT) (pa_cons (pe_fld (pv 0) (by rfl)) pa_nil))) (pa_cons (pe_tup (pa_cons (pe_k T.v_ALSO) (pa_cons (pe_fld (pv 0) (by rfl)) pa_nil))) pa_nil)))) (pg_tup (by rfl) (pgs_cons (pg_name (i := 2) sc_Days_str.nd rfl (Or.inl rfl)) (pgs_cons (pg_name (i := 3) sc_Days_str.nd rfl (Or.inl rfl)) pgs_nil)))
      (pss_one (ps_if (pt_cmpR (op_neD hr.rm.units) (pv 3) (pe_tup pa_nil) (nomark _))
      (pss_one (ps_expr (pe_bm PySem.F.plainAttrs_list PySem.F.slot_list_extend PySem.F.type_list_extend mt_extend (pv 1) (pa_cons (pe_op op_cat (pe_lst (pa_cons (pv 2) pa_nil)) (pe_lc (own := [("day", 4)]) (by rfl) sc_Days_str.nd (pi_tup (pv 3)) (blkOk_by (own := [("day", 4)]) (N := ["self", "words", "word", "some", "day"]) (sc := defScope s_Days_str) (by decide +kernel)) (fun _ _ _ _ _ => (pg_name (i := 4) sc_Days_str.nd rfl (Or.inl rfl))) (fun _ _ _ _ _ => pts_nil) (fun _ _ _ _ _ => (pe_callTy call_str_int (by rfl) T.n_str (by decide +kernel) (pa_cons (pv 4) pa_nil))))) pa_nil))))
      pss_nil)))
      (pss_one (ps_ret (pe_join pe_str (pv 1)))))))), ?_⟩
    obtain ⟨hs, ht, lo, la, no, na, hdj⟩ := id hD
    obtain ⟨f1, f2, f3, f4⟩ := id hF
    obtain ⟨dx, r, po, pa, h1, ⟨dr, h2⟩, h3, h4⟩ := id ha
    refine ⟨_, rfl, a, _, dx, _, _, rfl, h1, T.c_Days, T.a_Days_ring, rfl, r, dr, _, rfl, h2, r, D.bits, rfl, ⟨dr, h2⟩, ?_⟩
    refine ⟨trivial, by show 1 ≤ sizeLine; decide, fun w nw => ?_⟩
    have X0 := ex_new (o := .lst (sV [D.bits])) nw
    have dn := (wlen (by decide) hD hF).2
    have dw := (wlen (by decide) hD hF).1
    have big : ∀ {n : Nat}, n < 10 ^ 150 → ((n : Nat) : Int).natAbs.log2 < 1920 := fun {n} h => log_of (Nat.lt_trans (show ((n : Nat) : Int).natAbs < 10 ^ 150 by rw [Int.natAbs_natCast]; exact h) (by decide +kernel))
    refine ⟨fun σ' H' => Ex H H' ∧ σ' = [some (.ref a), some (.ref w), none, none, none] ∧ H' w = some (.lst (sV ([D.bits] ++ wSince D))), ?_, ?_⟩
    · refine ⟨_, rfl, a, _, dx, _, _, rfl, X0 _ _ h1, T.c_Days, T.a_Days_since, rfl, _, _, rfl, rfl, _, rfl, ?_⟩
      unfold wSince
      by_cases c : 0 < D.since
      · rw [decide_eq_true (show (0 : Int) < ((D.since : Nat) : Int) by omega), if_pos c]
        refine iteT ?_
        refine ⟨_, rfl, .inl ⟨rfl, _, sq_lst upd_same⟩, _, rfl, a, _, dx, _, _, rfl, X0 _ _ h1, T.c_Days, T.a_Days_since, rfl, _, rfl, big f1, by show 2 ≤ sizeLine; decide, fun l nl => ?_⟩
        have wl : w ≠ l := ne_of_none upd_same nl
        refine ⟨w, l, sV [D.bits], sV [wFrom, TL.numL D.since], rfl, rfl, ex_new nl _ _ upd_same, ?_, by show 1 + 2 ≤ sizeLine; decide, ?_⟩
        · rw [upd_same, SX.num_S]
          rfl
        · exact ⟨ex_mut (X0.trans (ex_new nl)) nw, rfl, by rw [upd_same, sV_app]⟩
      · rw [decide_eq_false (show ¬ (0 : Int) < ((D.since : Nat) : Int) by omega), if_neg c]
        exact ⟨X0, rfl, upd_same⟩
    rintro σ' H1 ⟨X1, rfl, hw1⟩
    refine ⟨fun σ' H' => Ex H H' ∧ σ' = [some (.ref a), some (.ref w), none, none, none] ∧ H' w = some (.lst (sV ([D.bits] ++ wSince D ++ wTill D))), ?_, ?_⟩
    · refine ⟨_, rfl, a, _, dx, _, _, rfl, X1 _ _ h1, T.c_Days, T.a_Days_till, rfl, rfl, _, rfl, ?_⟩
      unfold wTill
      cases hT : D.till with
      | none => exact ⟨X1, rfl, by rw [List.append_nil]; exact hw1⟩
      | some t =>
        refine iteT ?_
        refine ⟨_, rfl, .inl ⟨rfl, _, sq_lst hw1⟩, _, rfl, a, _, dx, _, _, rfl, X1 _ _ h1, T.c_Days, T.a_Days_till, rfl, (t : Int), (by rw [hT]; rfl), big (f2 t hT), by show 2 ≤ sizeLine; decide, fun l nl => ?_⟩
        have l2 : (sV ([D.bits] ++ wSince D)).length ≤ 10 := by
          rw [sV_len]
          unfold wSince
          split <;> simp
        refine ⟨w, l, _, sV [wTo, TL.numL t], rfl, rfl, ex_new nl _ _ hw1, ?_, sz_le (by rw [sV_len [wTo, TL.numL t]]; show _ + 2 ≤ _; omega), ?_⟩
        · rw [upd_same, SX.num_S]
          rfl
        · exact ⟨ex_mut (X1.trans (ex_new nl)) nw, rfl, by rw [upd_same, sV_app]⟩
    rintro σ' H2 ⟨X2, rfl, hw2⟩
    refine ⟨_, rfl, a, _, dx, _, _, rfl, X2 _ _ h1, T.c_Days, T.a_Days_out, rfl, by show 2 ≤ sizeLine; decide, fun t1 n1 => ?_⟩
    have Y1 := ex_new (o := .tup [.str (Str.ofString "not"), .ref po]) n1
    refine ⟨_, rfl, a, _, dx, _, _, rfl, Y1 _ _ (X2 _ _ h1), T.c_Days, T.a_Days_also, rfl, by show 2 ≤ sizeLine; decide, fun t2 n2 => ⟨by show 2 ≤ sizeLine; decide, fun t nt => ?_⟩⟩
    have Y2 := ex_new (o := .tup [.str (Str.ofString "also"), .ref pa]) n2
    have Y3 := ex_new (o := .tup [.ref t1, .ref t2]) nt
    have X3 := X2.trans ((Y1.trans Y2).trans Y3)
    have hw3 := ((Y1.trans Y2).trans Y3) _ _ hw2
    have g1 := (Y2.trans Y3) _ _ upd_same
    have g2 := Y3 _ _ upd_same
    have g3 : upd (upd (upd H2 t1 (.tup [.str (Str.ofString "not"), .ref po])) t2 (.tup [.str (Str.ofString "also"), .ref pa])) t (.tup [.ref t1, .ref t2]) t = some (.tup [.ref t1, .ref t2]) := upd_same
    refine ⟨t, rfl, ⟨_, sq_tup g3⟩, ?_⟩
    generalize upd (upd (upd H2 t1 (.tup [.str (Str.ofString "not"), .ref po])) t2 (.tup [.str (Str.ofString "also"), .ref pa])) t (.tup [.ref t1, .ref t2]) = H3 at X3 hw3 g1 g2 g3 ⊢
    have g1 : H3 t1 = some (.tup [.str (SX.S wNot), .ref po]) := g1
    have g2 : H3 t2 = some (.tup [.str (SX.S wAlso), .ref pa]) := g2
    have nlw : ∀ b o, (∀ ys, o ≠ .lst ys) → H3 b = some o → b ≠ w := fun b o ho e z => by
      rw [z, hw3] at e
      exact ho _ (Option.some.inj e).symm
    have tw := nlw _ _ (fun _ z => by cases z) g3
    have t1w := nlw _ _ (fun _ z => by cases z) g1
    have t2w := nlw _ _ (fun _ z => by cases z) g2
    have pow := nlw _ _ (fun _ z => by cases z) (X3 _ _ h3)
    have paw := nlw _ _ (fun _ z => by cases z) (X3 _ _ h4)
    have bl : ([D.bits] ++ wSince D ++ wTill D).length ≤ 5 := by
      unfold wSince wTill
      cases D.till <;> split <;> simp
    refine for_on [(t1, wNot, po, srtN D.out), (t2, wAlso, pa, srtN D.also)] (fun p : Addr × List Nat × Addr × List Nat => V.ref p.1) L2.walk_tup (fun i σ H' => Oth w H3 H' ∧ H' w = some (.lst (sV ([D.bits] ++ wSince D ++ wTill D ++ (([(t1, wNot, po, srtN D.out), (t2, wAlso, pa, srtN D.also)] : List (Addr × List Nat × Addr × List Nat)).take i).flatMap fun p => wList p.2.1 p.2.2.2))) ∧ ∃ v2 v3 v4, σ = [some (.ref a), some (.ref w), v2, v3, v4]) ⟨Oth.refl _ _, by rw [List.take_zero, List.flatMap_nil, List.append_nil]; exact hw3, _, _, _, rfl⟩ (fun i σ H' p => sq_tup (p.1 _ _ tw g3)) ?_ ?_
    · rintro i ⟨u, wd, pp, ns⟩ σ H4 hx ⟨O4, hw4, v2, v3, v4, rfl⟩
      have hm : u ≠ w ∧ H3 u = some (.tup [.str (SX.S wd), .ref pp]) ∧ pp ≠ w ∧ H3 pp = some (.tup (natV ns)) ∧ ns.length ≤ 8 ∧ ∀ n ∈ ns, n < 10 ^ 150 := by
        have hm := List.mem_of_getElem? hx
        have s1 := srtN_len D.out
        have s2 := srtN_len D.also
        simp only [List.mem_cons, List.not_mem_nil, or_false, Prod.mk.injEq] at hm
        rcases hm with ⟨rfl, rfl, rfl, rfl⟩ | ⟨rfl, rfl, rfl, rfl⟩
        · exact ⟨t1w, g1, pow, X3 _ _ h3, by omega, fun n hn => f3 n ((srtN_mem n _).mp hn)⟩
        · exact ⟨t2w, g2, paw, X3 _ _ h4, by omega, fun n hn => f4 n ((srtN_mem n _).mp hn)⟩
      obtain ⟨uw, hu, ppw, hpp, ln, bn⟩ := hm
      have tk := take_snoc hx
      have hu4 := O4 _ _ uw hu
      have hp4 := O4 _ _ ppw hpp
      refine ⟨u, _, rfl, sq_tup hu4, rfl, _, _, rfl, _, _, rfl, rfl, ?_⟩
      refine ⟨_, rfl, by show 0 ≤ sizeLine; decide, fun e ne => ?_⟩
      have Z1 := ex_new (o := .tup []) ne
      refine ⟨.tuple (natD ns), .tuple [], .tup (sq_tup (Z1 _ _ hp4)) (dp_nat K _ ns), .tup (sq_tup upd_same) .nil, shapedT_nat ns, rfl, _, rfl, ?_⟩
      have lb : ([D.bits] ++ wSince D ++ wTill D ++ (([(t1, wNot, po, srtN D.out), (t2, wAlso, pa, srtN D.also)] : List (Addr × List Nat × Addr × List Nat)).take i).flatMap fun p => wList p.2.1 p.2.2.2).length ≤ 50 := by
        have s1 := srtN_len D.out
        have s2 := srtN_len D.also
        have wl : ∀ (w : List Nat) (ns : List Nat), (wList w ns).length ≤ ns.length + 1 := fun w ns => by
          unfold wList
          split <;> simp
        have w1 := wl wNot (srtN D.out)
        have w2 := wl wAlso (srtN D.also)
        rw [List.length_append]
        have hi : i = 0 ∨ i = 1 ∨ 2 ≤ i := by omega
        rcases hi with rfl | rfl | hi
        · rw [List.take_zero, List.flatMap_nil]
          show _ + 0 ≤ 50
          omega
        · simp only [List.take_succ_cons, List.take_zero, List.flatMap_cons, List.flatMap_nil, List.append_nil]
          omega
        · rw [List.take_of_length_le (by show 2 ≤ i; exact hi)]
          have bl2 := bl
          simp only [List.length_append] at bl2
          simp only [List.flatMap_cons, List.flatMap_nil, List.append_nil, List.length_append]
          omega
      rw [tk, List.flatMap_append, ← List.append_assoc]
      generalize [D.bits] ++ wSince D ++ wTill D ++ (([(t1, wNot, po, srtN D.out), (t2, wAlso, pa, srtN D.also)] : List (Addr × List Nat × Addr × List Nat)).take i).flatMap (fun p => wList p.2.1 p.2.2.2) = B at hw4 lb ⊢
      rw [show ([(u, wd, pp, ns)] : List (Addr × List Nat × Addr × List Nat)).flatMap (fun p => wList p.2.1 p.2.2.2) = wList wd ns by simp]
      cases hns : ns with
      | nil =>
        exact ⟨O4.trans (ex_oth Z1), by show upd H4 e _ w = some (.lst (sV (B ++ []))); rw [List.append_nil]; exact Z1 _ _ hw4, _, _, _, rfl⟩
      | cons n0 nr =>
        refine iteT ?_
        rw [← hns]
        have nne : ns ≠ [] := by rw [hns]; simp
        refine ⟨_, rfl, .inl ⟨rfl, _, sq_lst (Z1 _ _ hw4)⟩, _, rfl, by show 1 ≤ sizeLine; decide, fun l1 nl1 => ?_⟩
        have Z2 := Z1.trans (ex_new (o := .lst (sV [wd])) nl1)
        refine ⟨_, rfl, pp, rfl, ⟨_, sq_tup (Z2 _ _ hp4)⟩, fun A nA => lc_on ns (fun n : Nat => V.int n) L2.walk_tup (fun n => some (.str (SX.S (TL.numL n)))) (fun H' => Ex (upd (upd H4 e (.tup [])) l1 (.lst (sV [wd]))) H') (fun H' z e => ex_mut e nA) (.refl _) (by omega) (fun H' e => sq_tup (e _ _ (Z2 _ _ hp4))) (fun j n H5 acc N hn X5 hA la k => ?_) fun H5 X5 d5 => ?_⟩
        · refine ⟨rfl, _, rfl, _, rfl, big (bn n (List.mem_of_getElem? hn)), acc, hA, la, ?_⟩
          rw [SX.num_S]
          exact k H5 X5 hA
        · have e5 : ns.filterMap (fun n => some (V.str (SX.S (TL.numL n)))) = sV (ns.map TL.numL) := by
            unfold sV
            rw [List.filterMap_eq_map', List.map_map]
            rfl
          rw [e5] at d5
          have Z5 := Z2.trans X5
          refine ⟨l1, A, sV [wd], _, rfl, rfl, X5 _ _ upd_same, d5, sz_le (by rw [sV_len, sV_len, List.length_map]; show 1 + _ ≤ _; omega), fun l3 nl3 => ?_⟩
          rw [sV_app]
          have Z6 := Z5.trans (ex_new (o := .lst (sV ([wd] ++ ns.map TL.numL))) nl3)
          refine ⟨w, l3, _, _, rfl, rfl, Z6 _ _ hw4, upd_same, sz_le (by rw [sV_len, sV_len, List.length_append, List.length_map]; show _ + (1 + _) ≤ _; omega), ?_⟩
          refine ⟨(O4.trans (ex_oth Z6)).upd, ?_, _, _, _, rfl⟩
          rw [upd_same, sV_app]
          unfold wList
          rw [if_neg nne]
          rfl
    · rintro σ H4 ⟨O4, hw4, v2, v3, v4, rfl⟩
      have ed : [D.bits] ++ wSince D ++ wTill D ++ (([(t1, wNot, po, srtN D.out), (t2, wAlso, pa, srtN D.also)] : List (Addr × List Nat × Addr × List Nat)).take ([(t1, wNot, po, srtN D.out), (t2, wAlso, pa, srtN D.also)] : List (Addr × List Nat × Addr × List Nat)).length).flatMap (fun p => wList p.2.1 p.2.2.2) = dwords D := by
        rw [List.take_length]
        unfold dwords
        simp
      rw [ed] at hw4
      have X4 : Ex H H4 := Oth.ex X3 nw O4
      refine ⟨⟨_, rfl⟩, _, rfl, _, _, (dwords D).map SX.S, rfl, rfl, .inl (sq_lst (by rw [hw4, sV_str])), ?_, ?_⟩
      · have := sum_len dw
        rw [List.length_map]
        have z : (Str.ofString " ").length = 1 := rfl
        rw [z]
        omega
      · rw [show Str.ofString " " = SX.S [32] from rfl, SX.join_S]
        exact q H4 X4

theorem ok_Days_str {P : Program} {w : World} {K : PySem.W.Frag} {mg : Str → Option Value} {base : Heap} (T : Env K mg) : Fc P w K mg base 4 (He.ma K (He.ga K "Days") "__str__") [] (sp_Days_str K) := by
  obtain ⟨fd, D, F⟩ := fb_Days_str T
  exact F.all (D.bindsN fun _ _ _ _ _ _ us hl => match us, hl with | [_], _ => rfl)
end
section
def sp_day_in (K : PySem.W.Frag) : Sp := fun vs H Q E => ∃ l : List Nat, vs = [.str (SX.S l)] ∧ l.length ≤ 600 ∧ (Mo.figs l = true → ∀ H', Ex H H' → Q (.int (Mo.val l : Nat)) H') ∧ (Mo.figs l = false → ∀ H', Ex H H' → E (.ref (He.ga K "NoDays")) none H')
theorem fb_day_in {P : Program} {w : World} {K : PySem.W.Frag} {mg : Str → Option Value} {base : Heap} (T : Env K mg) : ∃ fd, FunD K "day_in" "day_in" (defArgs s_day_in) (defBody s_day_in) (defScope s_day_in) [] [] (He.ga K "day_in") fd ∧ Fb P w K mg base 2 (He.ga K "day_in") fd ["word"] (sp_day_in K) := by
  obtain ⟨fd, F⟩ := T.f_day_in
  refine ⟨fd, F, fb_of F sc_day_in (fun vs H Q E h => ?_) (fun cdv A outer s H vs Q E hr h => ?_)⟩
  · obtain ⟨l, rfl, _⟩ := h
    rfl
  · obtain ⟨l, rfl, hl, q, qe⟩ := h
    refine ⟨_, (pss_cons (ps_if (pt_not (pt_val (c_call (ok_are_figures T) (hr.mono (by decide)) T.g_are_figures T.k_are_figures (takes_of rfl rfl rfl rfl) (pa_cons (pv 0) pa_nil))))
      (pss_one (ps_raise rfl (takes_of rfl rfl rfl rfl) (pmk_own PySem.F.excBase_ValueError T.x_NoDays.x T.g_NoDays T.x_NoDays.kp (raises_own T.x_NoDays.sub T.x_NoDays.ty) rfl)))
      pss_nil)
      (pss_one (ps_ret (pe_callTy call_int_str (by rfl) T.n_int (by decide +kernel) (pa_cons (pv 0) pa_nil))))), ?_⟩
    refine ⟨_, rfl, l, rfl, by omega, fun H1 X1 => ?_⟩
    cases hf : Mo.figs l with
    | false => exact ⟨false, rfl, qe hf H1 X1⟩
    | true =>
      obtain ⟨h0, hd⟩ := Mo.figs_iff.mp hf
      refine ⟨true, rfl, iteF ?_⟩
      exact ⟨_, rfl, _, _, rfl, SX.int_S (Mo.all_fig hd) h0 (by omega), by rw [SX.S_len]; omega, q hf H1 X1⟩

theorem ok_day_in {P : Program} {w : World} {K : PySem.W.Frag} {mg : Str → Option Value} {base : Heap} (T : Env K mg) : Fc P w K mg base 2 (He.ga K "day_in") [] (sp_day_in K) := by
  obtain ⟨fd, D, F⟩ := fb_day_in T
  exact F.all (D.bindsN fun _ _ _ _ _ _ us hl => match us, hl with | [_], _ => rfl)
end
section
/-- the word that tells what days behind it are -/
def dtag (w : List Nat) : Option Nat := if w = wFrom then some 1 else if w = wTo then some 2 else if w = wNot then some 3 else if w = wAlso then some 4 else none
def addL (L : Nat → List Nat) (k v : Nat) : Nat → List Nat := fun i => if i = k then L i ++ [v] else L i
def dread : Nat → (Nat → List Nat) → List (List Nat) → Option (Nat → List Nat)
  | _, L, [] => some L
  | cur, L, w :: r => match dtag w with
    | some k => dread k L r
    | none => if Mo.figs w = true then dread cur (addL L cur (Mo.val w)) r else none
theorem dread_cons (cur : Nat) (L : Nat → List Nat) (w : List Nat) (r : List (List Nat)) : dread cur L (w :: r) = match dtag w with
    | some k => dread k L r
    | none => if Mo.figs w = true then dread cur (addL L cur (Mo.val w)) r else none := rfl
def tillOk (s : Nat) : Option Nat → Bool
  | some u => decide (s ≤ u)
  | none => true
def mkDays (bits : List Nat) (s : Nat) (t : Option Nat) (o al : List Nat) : Option DaysD :=
  if sgn bits = true then if tillOk s t = true then if (decide (o.length ≤ 8) && decide o.Nodup) = true then if (decide (al.length ≤ 8) && decide al.Nodup) = true then
    if (al.any fun d => decide (d ∈ o)) = true then none else some ⟨bits, s, t, o, al⟩ else none else none else none else none
/-- the Days of words -/
def daysOf : List (List Nat) → Option DaysD
  | [] => none
  | b :: ws => match dread 0 (fun _ => []) ws with
    | none => none
    | some L => mkDays b ((L 1).headD 0) (L 2).head? (L 3) (L 4)
/-- the Days of a text -/
def readD (l : List Nat) : Option DaysD := match daysOf (TL.spl [32] 0 [] l) with
  | some D => if dtxt D = l then some D else none
  | none => none
theorem mkDays_ok {bits : List Nat} {s : Nat} {t : Option Nat} {o al : List Nat} {D : DaysD} (h : mkDays bits s t o al = some D) : D.ok ∧ D = ⟨bits, s, t, o, al⟩ := by
  unfold mkDays at h
  split at h
  · rename_i h1
    split at h
    · rename_i h2
      split at h
      · rename_i h3
        split at h
        · rename_i h4
          split at h
          · cases h
          · rename_i h5
            cases h
            obtain ⟨a1, a2⟩ := Bool.and_eq_true_iff.mp h3
            obtain ⟨a3, a4⟩ := Bool.and_eq_true_iff.mp h4
            refine ⟨⟨h1, fun u hu => ?_, of_decide_eq_true a1, of_decide_eq_true a3, of_decide_eq_true a2, of_decide_eq_true a4, fun n hn ho => h5 (List.any_eq_true.mpr ⟨n, hn, decide_eq_true ho⟩)⟩, rfl⟩
            dsimp only at hu
            subst hu
            exact of_decide_eq_true h2
        · cases h
      · cases h
    · cases h
  · cases h
theorem mkDays_of {D : DaysD} (h : D.ok) : mkDays D.bits D.since D.till D.out D.also = some D := by
  obtain ⟨hs, ht, lo, la, no, na, hdj⟩ := h
  unfold mkDays
  have e : tillOk D.since D.till = true := by
    cases hT : D.till with
    | none => rfl
    | some u => exact decide_eq_true (ht u hT)
  have e2 : (D.also.any fun d => decide (d ∈ D.out)) = false := by
    rw [List.any_eq_false]
    intro d hd
    simpa using hdj d hd
  rw [hs, e, decide_eq_true lo, decide_eq_true no, decide_eq_true la, decide_eq_true na, e2]
  rfl
/-- all numbers come from words -/
theorem dread_lt {k : Nat} : ∀ {ws : List (List Nat)} {cur : Nat} {L L' : Nat → List Nat}, (∀ w ∈ ws, w.length ≤ k) → (∀ i, ∀ n ∈ L i, n < 10 ^ k) → dread cur L ws = some L' → ∀ i, ∀ n ∈ L' i, n < 10 ^ k
  | [], cur, L, L', _, hL, h => by
    cases h
    exact hL
  | w :: r, cur, L, L', hw, hL, h => by
    unfold dread at h
    split at h
    · exact dread_lt (fun x hx => hw x (List.mem_cons_of_mem _ hx)) hL h
    · split at h
      · rename_i hf
        refine dread_lt (fun x hx => hw x (List.mem_cons_of_mem _ hx)) (fun i n hn => ?_) h
        unfold addL at hn
        split at hn
        · rcases List.mem_append.mp hn with hn | hn
          · exact hL i n hn
          · rw [List.mem_singleton.mp hn]
            exact Nat.lt_of_lt_of_le (Mo.val_lt (Mo.figs_iff.mp hf).2) (Nat.pow_le_pow_right (by decide) (hw w List.mem_cons_self))
        · exact hL i n hn
      · cases h
theorem daysOf_ok {ws : List (List Nat)} {k : Nat} {D : DaysD} (hw : ∀ w ∈ ws, w.length ≤ k) (h : daysOf ws = some D) : D.ok ∧ D.fit k := by
  cases ws with
  | nil => cases h
  | cons b ws =>
    unfold daysOf at h
    dsimp only at h
    split at h
    · cases h
    · rename_i L hL
      obtain ⟨h1, rfl⟩ := mkDays_ok h
      have hb := dread_lt (fun x hx => hw x (List.mem_cons_of_mem _ hx)) (fun i n hn => by cases hn) hL
      refine ⟨h1, ?_, fun t ht => ?_, hb 3, hb 4⟩
      · show (L 1).headD 0 < 10 ^ k
        cases e : L 1 with
        | nil => exact Nat.pow_pos (by decide)
        | cons x r => exact hb 1 x (by rw [e]; exact List.mem_cons_self)
      · have ht : (L 2).head? = some t := ht
        exact hb 2 t (List.mem_of_head? ht)

end
section
/-- the dict's entries, the lists at ad -/
def tagKV (ad : Nat → Addr) : List (Key × V) := [(Sum.inr (SX.S wFrom), .ref (ad 1)), (Sum.inr (SX.S wTo), .ref (ad 2)), (Sum.inr (SX.S wNot), .ref (ad 3)), (Sum.inr (SX.S wAlso), .ref (ad 4))]
theorem tag_val (ad : Nat → Addr) (w : List Nat) : valV (tagKV ad) (Sum.inr (SX.S w)) = (dtag w).map fun k => V.ref (ad k) := by
  have ne : ∀ {a : List Nat}, w ≠ a → ¬ ((Sum.inr (SX.S a) : Key) = Sum.inr (SX.S w)) := fun h z => by
    injection z with z
    exact h (SX.S_inj z).symm
  unfold tagKV dtag
  by_cases h1 : w = wFrom
  · subst h1
    rw [if_pos rfl]
    exact valV_pos rfl
  rw [if_neg h1, valV_neg (ne h1)]
  by_cases h2 : w = wTo
  · subst h2
    rw [if_pos rfl]
    exact valV_pos rfl
  rw [if_neg h2, valV_neg (ne h2)]
  by_cases h3 : w = wNot
  · subst h3
    rw [if_pos rfl]
    exact valV_pos rfl
  rw [if_neg h3, valV_neg (ne h3)]
  by_cases h4 : w = wAlso
  · subst h4
    rw [if_pos rfl]
    exact valV_pos rfl
  rw [if_neg h4, valV_neg (ne h4)]
  rfl
theorem dtag_le {w : List Nat} {k : Nat} (h : dtag w = some k) : 1 ≤ k ∧ k ≤ 4 := by
  unfold dtag at h
  split at h
  · cases h; decide
  · split at h
    · cases h; decide
    · split at h
      · cases h; decide
      · split at h
        · cases h; decide
        · cases h
def sp_days_of (K : PySem.W.Frag) : Sp := fun vs H Q E => ∃ (l : Addr) (ws : List (List Nat)), vs = [.ref l] ∧ H l = some (.lst (sV ws)) ∧ ws ≠ [] ∧ ws.length ≤ 5000 ∧ (∀ w ∈ ws, w.length ≤ 150) ∧ (∀ D, daysOf ws = some D → ∀ x H', Ex H H' → H x = none → DaysAt K H' x D → Q (.ref x) H') ∧ (daysOf ws = none → ∀ H', Ex H H' → E (.ref (He.ga K "NoDays")) none H')
theorem fb_days_of {P : Program} {w : World} {K : PySem.W.Frag} {mg : Str → Option Value} {base : Heap} (T : Env K mg) : ∃ fd, FunD K "days_of" "days_of" (defArgs s_days_of) (defBody s_days_of) (defScope s_days_of) [] [] (He.ga K "days_of") fd ∧ Fb P w K mg base 7 (He.ga K "days_of") fd ["words"] (sp_days_of K) := by
  obtain ⟨fd, F⟩ := T.f_days_of
  refine ⟨fd, F, fb_of F sc_days_of (fun vs H Q E h => ?_) (fun cdv A outer s H vs Q E hr h => ?_)⟩
  · obtain ⟨l, ws, rfl, _⟩ := h
    rfl
  · obtain ⟨l, ws, rfl, hl, wne, wl, w150, q, qe⟩ := h
    refine ⟨_, (pss_cons (ps_set (i := 1) sc_days_of.nd rfl (Or.inl rfl) (pe_disp (pps_cons (pe_k T.v_FROM) (pe_lst pa_nil) (pps_cons (pe_k T.v_TO) (pe_lst pa_nil) (pps_cons (pe_k T.v_NOT) (pe_lst pa_nil) (pps_cons (pe_k T.v_ALSO) (pe_lst pa_nil) pps_nil)))) rfl rfl (by simp) (by decide)))
      (pss_cons (ps_set (i := 2) sc_days_of.nd rfl (Or.inl rfl) (pe_lst pa_nil))
      (pss_cons (ps_for (passes_of rfl) rfl (pi_list (pe_slice sl_list (pv 0) (po_some pe_int) po_none)) (pg_name (i := 3) sc_days_of.nd rfl (Or.inl rfl))
      (pss_one (ps_if (pt_cmp (pc_din (hu_of hr.rm) (pv 3) (pv 1)))
      (pss_one (ps_set (i := 2) sc_days_of.nd rfl (Or.inl rfl) (pe_dget (hu_of hr.rm) (pv 1) (pv 3) (fun _ _ => rfl))))
      (pss_one (ps_expr (pe_bm PySem.F.plainAttrs_list PySem.F.slot_list_append PySem.F.type_list_append mt_append (pv 2) (pa_cons (c_call (ok_day_in T) (hr.mono (by decide)) T.g_day_in T.k_day_in (takes_of rfl rfl rfl rfl) (pa_cons (pv 3) pa_nil)) pa_nil)))))))
      (pss_cons (ps_set (i := 4) sc_days_of.nd rfl (Or.inl rfl) (pe_ix ix_list (pe_op op_cat (pe_dget (hu_of hr.rm) (pv 1) (pe_k T.v_FROM) (fun _ _ => rfl)) (pe_lst (pa_cons pe_int pa_nil))) pe_int (fun _ _ => rfl)))
      (pss_cons (ps_set (i := 5) sc_days_of.nd rfl (Or.inl rfl) (pe_ix ix_list (pe_op op_cat (pe_dget (hu_of hr.rm) (pv 1) (pe_k T.v_TO) (fun _ _ => rfl)) (pe_lst (pa_cons pe_non pa_nil))) pe_int (fun _ _ => rfl)))
      (pss_one (ps_ret (c_make T.mk_Days (ok_Days_init T) (hr.mono (by decide)) T.g_Days (takes_of rfl rfl rfl rfl) (pa_cons (c_make T.mk_Ring (ok_Ring_init T) (hr.mono (by decide)) T.g_Ring (takes_of rfl rfl rfl rfl) (pa_cons (pe_ix ix_list (pv 0) pe_int (fun _ _ => rfl)) pa_nil)) (pa_cons (pv 4) (pa_cons (pv 5) (pa_cons (pe_dget (hu_of hr.rm) (pv 1) (pe_k T.v_NOT) (fun _ _ => rfl)) (pa_cons (pe_dget (hu_of hr.rm) (pv 1) (pe_k T.v_ALSO) (fun _ _ => rfl)) pa_nil))))))))))))), ?_⟩
    refine fun d nd => ⟨by show 0 ≤ sizeLine; decide, fun l1 n1 => ⟨by show 0 ≤ sizeLine; decide, fun l2 n2 => ⟨by show 0 ≤ sizeLine; decide, fun l3 n3 => ⟨by show 0 ≤ sizeLine; decide, fun l4 n4 => ?_⟩⟩⟩⟩
    have d1 : l1 ≠ d := (ne_of_none upd_same n1).symm
    have d2 : l2 ≠ d := (ne_of_none (ex_new n1 _ _ upd_same) n2).symm
    have d3 : l3 ≠ d := (ne_of_none (((ex_new n1).trans (ex_new n2)) _ _ upd_same) n3).symm
    have d4 : l4 ≠ d := (ne_of_none ((((ex_new n1).trans (ex_new n2)).trans (ex_new n3)) _ _ upd_same) n4).symm
    have e12 : l1 ≠ l2 := ne_of_none upd_same n2
    have e13 : l1 ≠ l3 := ne_of_none (ex_new n2 _ _ upd_same) n3
    have e14 : l1 ≠ l4 := ne_of_none (((ex_new n2).trans (ex_new n3)) _ _ upd_same) n4
    have e23 : l2 ≠ l3 := ne_of_none upd_same n3
    have e24 : l2 ≠ l4 := ne_of_none (ex_new n3 _ _ upd_same) n4
    have e34 : l3 ≠ l4 := ne_of_none upd_same n4
    have Xd := ((((ex_new (o := .dK []) nd).trans (ex_new (o := .lst []) n1)).trans (ex_new (o := .lst []) n2)).trans (ex_new (o := .lst []) n3)).trans (ex_new (o := .lst []) n4)
    have g0 : upd (upd (upd (upd (upd H d (.dK [])) l1 (.lst [])) l2 (.lst [])) l3 (.lst [])) l4 (.lst []) d = some (.dK []) := ((((ex_new n1).trans (ex_new n2)).trans (ex_new n3)).trans (ex_new n4)) _ _ upd_same
    have g1 : upd (upd (upd (upd (upd H d (.dK [])) l1 (.lst [])) l2 (.lst [])) l3 (.lst [])) l4 (.lst []) l1 = some (.lst []) := (((ex_new n2).trans (ex_new n3)).trans (ex_new n4)) _ _ upd_same
    have g2 : upd (upd (upd (upd (upd H d (.dK [])) l1 (.lst [])) l2 (.lst [])) l3 (.lst [])) l4 (.lst []) l2 = some (.lst []) := ((ex_new n3).trans (ex_new n4)) _ _ upd_same
    have g3 : upd (upd (upd (upd (upd H d (.dK [])) l1 (.lst [])) l2 (.lst [])) l3 (.lst [])) l4 (.lst []) l3 = some (.lst []) := (ex_new n4) _ _ upd_same
    have g4 : upd (upd (upd (upd (upd H d (.dK [])) l1 (.lst [])) l2 (.lst [])) l3 (.lst [])) l4 (.lst []) l4 = some (.lst []) := upd_same
    generalize upd (upd (upd (upd (upd H d (.dK [])) l1 (.lst [])) l2 (.lst [])) l3 (.lst [])) l4 (.lst []) = H4 at Xd g0 g1 g2 g3 g4 ⊢
    refine ⟨g0, [(Sum.inr (SX.S wFrom), .ref l1), (Sum.inr (SX.S wTo), .ref l2), (Sum.inr (SX.S wNot), .ref l3), (Sum.inr (SX.S wAlso), .ref l4)], rfl, by show 4 ≤ 15; decide, ?_⟩
    refine ⟨by show 0 ≤ sizeLine; decide, fun l0 n0 => ?_⟩
    have mk : mergeK [] [(Sum.inr (SX.S wFrom), V.ref l1), (Sum.inr (SX.S wTo), .ref l2), (Sum.inr (SX.S wNot), .ref l3), (Sum.inr (SX.S wAlso), .ref l4)] = tagKV (fun k => match k with | 0 => l0 | 1 => l1 | 2 => l2 | 3 => l3 | _ => l4) := rfl
    rw [mk] at n0 ⊢
    have hd0 : d ≠ l0 := ne_of_none upd_same n0
    have X5 : Ex H (upd (upd H4 d (.dK (tagKV (fun k => match k with | 0 => l0 | 1 => l1 | 2 => l2 | 3 => l3 | _ => l4)))) l0 (.lst [])) := (ex_mut Xd nd).trans (ex_new n0)
    have h1 : ∀ {p : Addr} {o : HO}, p ≠ d → H4 p = some o → upd (upd H4 d (.dK (tagKV (fun k => match k with | 0 => l0 | 1 => l1 | 2 => l2 | 3 => l3 | _ => l4)))) l0 (.lst []) p = some o := fun {p o} hp e => ex_new n0 _ _ (by rw [upd_ne hp]; exact e)
    have n04 : ∀ {p : Addr} {o : HO}, p ≠ d → H4 p = some o → p ≠ l0 := fun {p o} hp e => ne_of_none (by rw [upd_ne hp]; exact e) n0
    have f01 := n04 d1 g1
    have f02 := n04 d2 g2
    have f03 := n04 d3 g3
    have f04 := n04 d4 g4
    have frs : ∀ {p : Addr}, p = l1 ∨ p = l2 ∨ p = l3 ∨ p = l4 ∨ p = l0 → H p = none := fun {p} hp => by
      rcases hp with rfl | rfl | rfl | rfl | rfl
      · exact ex_fresh (ex_new nd) n1
      · exact ex_fresh (ex_new nd) (ex_fresh (ex_new n1) n2)
      · exact ex_fresh (ex_new nd) (ex_fresh (ex_new n1) (ex_fresh (ex_new n2) n3))
      · exact ex_fresh (ex_new nd) (ex_fresh (ex_new n1) (ex_fresh (ex_new n2) (ex_fresh (ex_new n3) n4)))
      · exact ex_fresh (ex_mut Xd nd) n0
    have hL5 : ∀ k, k ≤ 4 → upd (upd H4 d (.dK (tagKV (fun k => match k with | 0 => l0 | 1 => l1 | 2 => l2 | 3 => l3 | _ => l4)))) l0 (.lst []) ((fun k => match k with | 0 => l0 | 1 => l1 | 2 => l2 | 3 => l3 | _ => l4 : Nat → Addr) k) = some (.lst (natV [])) := fun k hk => by
      match k, hk with
      | 0, _ => exact upd_same
      | 1, _ => exact h1 d1 g1
      | 2, _ => exact h1 d2 g2
      | 3, _ => exact h1 d3 g3
      | 4, _ => exact h1 d4 g4
    have fr : ∀ k, k ≤ 4 → H ((fun k => match k with | 0 => l0 | 1 => l1 | 2 => l2 | 3 => l3 | _ => l4 : Nat → Addr) k) = none := fun k hk => by
      match k, hk with
      | 0, _ => exact frs (.inr (.inr (.inr (.inr rfl))))
      | 1, _ => exact frs (.inl rfl)
      | 2, _ => exact frs (.inr (.inl rfl))
      | 3, _ => exact frs (.inr (.inr (.inl rfl)))
      | 4, _ => exact frs (.inr (.inr (.inr (.inl rfl))))
    have ndd : ∀ k, k ≤ 4 → (fun k => match k with | 0 => l0 | 1 => l1 | 2 => l2 | 3 => l3 | _ => l4 : Nat → Addr) k ≠ d := fun k hk => by
      match k, hk with
      | 0, _ => exact hd0.symm
      | 1, _ => exact d1
      | 2, _ => exact d2
      | 3, _ => exact d3
      | 4, _ => exact d4
    have inj : ∀ j k, j ≤ 4 → k ≤ 4 → j ≠ k → (fun k => match k with | 0 => l0 | 1 => l1 | 2 => l2 | 3 => l3 | _ => l4 : Nat → Addr) j ≠ (fun k => match k with | 0 => l0 | 1 => l1 | 2 => l2 | 3 => l3 | _ => l4 : Nat → Addr) k := fun j k hj hk hne => by
      match j, k, hj, hk with
      | 0, 0, _, _ => exact absurd rfl hne
      | 0, 1, _, _ => exact f01.symm
      | 0, 2, _, _ => exact f02.symm
      | 0, 3, _, _ => exact f03.symm
      | 0, 4, _, _ => exact f04.symm
      | 1, 0, _, _ => exact f01
      | 1, 1, _, _ => exact absurd rfl hne
      | 1, 2, _, _ => exact e12
      | 1, 3, _, _ => exact e13
      | 1, 4, _, _ => exact e14
      | 2, 0, _, _ => exact f02
      | 2, 1, _, _ => exact e12.symm
      | 2, 2, _, _ => exact absurd rfl hne
      | 2, 3, _, _ => exact e23
      | 2, 4, _, _ => exact e24
      | 3, 0, _, _ => exact f03
      | 3, 1, _, _ => exact e13.symm
      | 3, 2, _, _ => exact e23.symm
      | 3, 3, _, _ => exact absurd rfl hne
      | 3, 4, _, _ => exact e34
      | 4, 0, _, _ => exact f04
      | 4, 1, _, _ => exact e14.symm
      | 4, 2, _, _ => exact e24.symm
      | 4, 3, _, _ => exact e34.symm
      | 4, 4, _, _ => exact absurd rfl hne
    have hdd : upd (upd H4 d (.dK (tagKV (fun k => match k with | 0 => l0 | 1 => l1 | 2 => l2 | 3 => l3 | _ => l4)))) l0 (.lst []) d = some (.dK (tagKV (fun k => match k with | 0 => l0 | 1 => l1 | 2 => l2 | 3 => l3 | _ => l4))) := ex_new n0 _ _ upd_same
    have a0 : l0 = (fun k => match k with | 0 => l0 | 1 => l1 | 2 => l2 | 3 => l3 | _ => l4 : Nat → Addr) 0 := rfl
    generalize (fun k => match k with | 0 => l0 | 1 => l1 | 2 => l2 | 3 => l3 | _ => l4 : Nat → Addr) = ad at hL5 fr ndd inj hdd X5 a0 ⊢
    generalize upd (upd H4 d (.dK (tagKV ad))) l0 (.lst []) = H5 at hL5 hdd X5 ⊢
    subst a0
    clear g0 g1 g2 g3 g4 Xd h1 n04 frs n0 n1 n2 n3 n4 d1 d2 d3 d4 e12 e13 e14 e23 e24 e34 f01 f02 f03 f04 hd0 mk
    refine ⟨_, rfl, _, rfl, l, _, rfl, sq_lst (X5 _ _ hl), fun s ns => ?_⟩
    rw [cut1]
    have ed : (sV ws).drop 1 = sV (ws.drop 1) := by
      unfold sV
      rw [List.map_drop]
    rw [ed]
    have X6 := X5.trans (ex_new (o := .lst (sV (ws.drop 1))) ns)
    have Y6 := ex_new (o := .lst (sV (ws.drop 1))) ns
    have nsd : s ≠ d := fun z => by rw [z, hdd] at ns; cases ns
    have nsa : ∀ k, k ≤ 4 → s ≠ ad k := fun k hk z => by rw [z, hL5 k hk] at ns; cases ns
    have hs6 : upd H5 s (.lst (sV (ws.drop 1))) s = some (.lst (sV (ws.drop 1))) := upd_same
    have hL6 : ∀ k, k ≤ 4 → upd H5 s (.lst (sV (ws.drop 1))) (ad k) = some (.lst (natV [])) := fun k hk => Y6 _ _ (hL5 k hk)
    have hd6 := Y6 _ _ hdd
    generalize upd H5 s (.lst (sV (ws.drop 1))) = H6 at X6 hs6 hL6 hd6 ⊢
    have w1l : (ws.drop 1).length ≤ 5000 := by rw [List.length_drop]; omega
    have w1b : ∀ w ∈ ws.drop 1, w.length ≤ 150 := fun w hw => w150 w (List.mem_of_mem_drop hw)
    obtain ⟨b, r, rfl⟩ : ∃ b r, ws = b :: r := by
      cases ws with
      | nil => exact absurd rfl wne
      | cons b r => exact ⟨b, r, rfl⟩
    have er : (b :: r).drop 1 = r := rfl
    rw [er] at hs6 w1l w1b
    have DO : ∀ o, daysOf (b :: r) = o ↔ (match dread 0 (fun _ => []) r with | none => none | some L => mkDays b ((L 1).headD 0) (L 2).head? (L 3) (L 4)) = o := fun o => Iff.rfl
    have dg : ∀ {H' : Hp} {k : Nat} {w : List Nat}, H' d = some (.dK (tagKV ad)) → dtag w = some k → DGet H' d (.str (SX.S w)) (some (.ref (ad k))) := fun {H' k w} h ht => by
      have := DGet.k (k := Sum.inr (SX.S w)) h
      rw [tag_val, ht] at this
      exact this
    refine ⟨s, rfl, ⟨_, sq_lst hs6⟩, for_on r (fun w => V.str (SX.S w)) L2.walk_list (fun i σ H' => ∃ (cur : Nat) (L : Nat → List Nat) (v3 : Option V), cur ≤ 4 ∧ σ = [some (.ref l), some (.ref d), some (.ref (ad cur)), v3, none, none] ∧ Ex H H' ∧ H' d = some (.dK (tagKV ad)) ∧ H' s = some (.lst (sV r)) ∧ (∀ k, k ≤ 4 → H' (ad k) = some (.lst (natV (L k)))) ∧ (∀ k, (L k).length ≤ i) ∧ dread cur L (r.drop i) = dread 0 (fun _ => []) r) ⟨0, fun _ => [], _, by decide, rfl, X6, hd6, hs6, hL6, fun k => Nat.le_refl _, rfl⟩ (fun i σ H' p => by obtain ⟨_, _, _, _, _, _, _, h, _⟩ := p; exact sq_lst h) ?_ ?_⟩
    · rintro i w σ H7 hw ⟨cur, L, v3, hc, rfl, X7, hd7, hs7, hL7, lL, hR⟩
      obtain ⟨hi, e⟩ := List.getElem?_eq_some_iff.mp hw
      have hw150 := w1b w (List.mem_of_getElem? hw)
      rw [List.drop_eq_getElem_cons hi, e] at hR
      refine ⟨_, rfl, _, rfl, d, _, rfl, DGet.k (k := Sum.inr (SX.S w)) hd7, _, rfl, ?_⟩
      rw [tag_val]
      rw [dread_cons] at hR
      cases ht : dtag w with
      | some k =>
        rw [ht] at hR
        refine iteT ?_
        refine ⟨_, rfl, _, rfl, d, _, rfl, dg hd7 ht, ?_⟩
        exact ⟨k, L, _, (dtag_le ht).2, rfl, X7, hd7, hs7, hL7, fun k => Nat.le_succ_of_le (lL k), hR⟩
      | none =>
        rw [ht] at hR
        refine iteF ?_
        refine ⟨_, rfl, .inl ⟨rfl, _, sq_lst (hL7 cur hc)⟩, _, rfl, w, rfl, by omega, fun hf H8 X8 => ?_, fun hf H8 X8 => ?_⟩
        · simp only [hf, if_true] at hR
          have lc := lL cur
          refine ⟨ad cur, _, _, rfl, rfl, X8 _ _ (hL7 cur hc), small_len (by rw [natV_len]; omega), ?_⟩
          refine ⟨cur, addL L cur (Mo.val w), _, hc, rfl, ex_mut (X7.trans X8) (fr cur hc), ?_, ?_, fun k hk => ?_, fun k => ?_, hR⟩
          · rw [upd_ne (ndd cur hc).symm]
            exact X8 _ _ hd7
          · rw [upd_ne (nsa cur hc)]
            exact X8 _ _ hs7
          · unfold addL
            by_cases ek : k = cur
            · subst ek
              rw [upd_same, if_pos rfl]
              exact congrArg some (congrArg HO.lst (by unfold natV; rw [List.map_append]; rfl))
            · rw [upd_ne (inj k cur hk hc ek), if_neg ek]
              exact X8 _ _ (hL7 k hk)
          · unfold addL
            have := lL k
            split
            · rw [List.length_append]
              show _ + 1 ≤ _
              omega
            · omega
        · simp only [hf, if_false, Bool.false_eq_true] at hR
          exact qe (by rw [DO, ← hR]) H8 (X7.trans X8)
    · rintro σ H7 ⟨cur, L, v3, hc, rfl, X7, hd7, hs7, hL7, lL, hR⟩
      rw [List.drop_length] at hR
      have hR : some L = dread 0 (fun _ => []) r := hR
      have DO : ∀ o, daysOf (b :: r) = o ↔ mkDays b ((L 1).headD 0) (L 2).head? (L 3) (L 4) = o := fun o => by
        rw [DO, ← hR]
      have l1 := lL 1
      have l2 := lL 2
      have l3 := lL 3
      have l4 := lL 4
      refine ⟨_, rfl, d, _, rfl, dg hd7 (w := wFrom) rfl, by show 1 ≤ sizeLine; decide, fun z1 nz1 => ?_⟩
      have Z1 := ex_new (o := .lst [.int 0]) nz1
      refine ⟨ad 1, z1, _, _, rfl, rfl, Z1 _ _ (hL7 1 (by decide)), upd_same, sz_le (by rw [natV_len]; show _ + 1 ≤ _; omega), fun c1 nc1 => ?_⟩
      have Z2 := Z1.trans (ex_new (o := .lst (natV (L 1) ++ [.int 0])) nc1)
      have a1 : atI (natV (L 1) ++ [V.int 0]) 0 = some (.int ((L 1).headD 0 : Nat)) := by
        cases L 1 with
        | nil => rfl
        | cons x y => exact atI_nat (j := 0) rfl
      refine ⟨c1, _, _, _, rfl, rfl, sq_lst upd_same, a1, ?_⟩
      refine ⟨_, rfl, d, _, rfl, dg (Z2 _ _ hd7) (w := wTo) rfl, by show 1 ≤ sizeLine; decide, fun z2 nz2 => ?_⟩
      have Z3 := Z2.trans (ex_new (o := .lst [.non]) nz2)
      refine ⟨ad 2, z2, _, _, rfl, rfl, Z3 _ _ (hL7 2 (by decide)), upd_same, sz_le (by rw [natV_len]; show _ + 1 ≤ _; omega), fun c2 nc2 => ?_⟩
      have Z4 := Z3.trans (ex_new (o := .lst (natV (L 2) ++ [.non])) nc2)
      have a2 : atI (natV (L 2) ++ [V.non]) 0 = some (optV (L 2).head?) := by
        cases L 2 with
        | nil => rfl
        | cons x y => exact atI_nat (j := 0) rfl
      refine ⟨c2, _, _, _, rfl, rfl, sq_lst upd_same, a2, ?_⟩
      have X8 := X7.trans Z4
      have hd8 := Z4 _ _ hd7
      have hL8 := fun k hk => Z4 _ _ (hL7 k hk)
      generalize upd (upd (upd (upd H7 z1 _) c1 _) z2 _) c2 _ = H8 at X8 hd8 hL8 ⊢
      refine ⟨_, rfl, l, _, _, .str (SX.S b), rfl, rfl, sq_lst (X8 _ _ hl), atI_nat (j := 0) rfl, fun q1 dq nq1 ndq neq => ?_⟩
      have XQ := ex_made (o1 := .own q1) (o2 := .ins (RingC K) dq []) nq1 ndq neq
      have b600 : b.length ≤ 600 := Nat.le_trans (w150 b List.mem_cons_self) (by decide)
      cases hsg : sgn b with
      | false =>
        refine ⟨q1, dq, _, rfl, upd_same, .inl ⟨b, rfl, b600, fun z => absurd (hsg.symm.trans z) (by decide), fun _ H9 X9 => qe ?_ H9 ((X8.trans XQ).trans X9)⟩⟩
        rw [DO]
        unfold mkDays
        rw [hsg]
        rfl
      | true =>
        refine ring_new nq1 ndq neq hsg fun H9 X9 R9 => ⟨rfl, ?_⟩
        have hd9 := X9 _ _ hd8
        have XX := X8.trans X9
        refine ⟨_, rfl, _, rfl, _, rfl, d, _, rfl, dg hd9 (w := wNot) rfl, _, rfl, d, _, rfl, dg hd9 (w := wAlso) rfl, fun x dx nx nd2 ne2 => ⟨rfl, ?_⟩⟩
        have XM := ex_made (o1 := .own x) (o2 := .ins (DaysC K) dx []) nx nd2 ne2
        refine ⟨x, dx, _, _, _, _, _, mkDays b ((L 1).headD 0) (L 2).head? (L 3) (L 4), H9, rfl, upd_same, nx, XM, ?_, fun D eD H' O' DA => ?_, fun eN H' O' => ?_⟩
        · have cln : ∀ {ns : List Nat} {y : V}, y ∈ natV ns → Cl K H9 y := fun {ns y} hy => by
            obtain ⟨n, _, rfl⟩ := List.mem_map.mp hy
            exact cl_int _
          refine ⟨some b, .inl ⟨q1, b, rfl, R9, hsg, rfl⟩, .inr ⟨b, rfl, cl_int _, .inr ⟨(L 1).headD 0, rfl, if tillOk ((L 1).headD 0) (L 2).head? = true then some (L 2).head? else none, ?_, ?_⟩⟩⟩
          · cases ht : (L 2).head? with
            | none => exact .inl ⟨rfl, rfl⟩
            | some u =>
              refine .inr ⟨(fun z => nomatch z), cl_int _, .inl ⟨u, rfl, ?_⟩⟩
              unfold tillOk
              by_cases c : (L 1).headD 0 ≤ u
              · rw [if_pos c, if_pos (decide_eq_true c)]
              · rw [if_neg c, if_neg (by simpa using c)]
          · unfold mkDays
            rw [hsg, if_pos rfl]
            by_cases c1 : tillOk ((L 1).headD 0) (L 2).head? = true
            · rw [if_pos c1, if_pos c1]
              refine .inr ⟨_, rfl, dayList (natV (L 3)), .inr (.inl ⟨_, natV (L 3), rfl, .inl (X9 _ _ (hL8 3 (by decide))), by rw [natV_len]; omega, fun y hy => cln hy, rfl⟩), ?_⟩
              rw [dayList_nat]
              by_cases c2 : (decide ((L 3).length ≤ 8) && decide (L 3).Nodup) = true
              · rw [if_pos c2, if_pos c2]
                refine .inr ⟨_, rfl, dayList (natV (L 4)), .inr (.inl ⟨_, natV (L 4), rfl, .inl (X9 _ _ (hL8 4 (by decide))), by rw [natV_len]; omega, fun y hy => cln hy, rfl⟩), ?_⟩
                rw [dayList_nat]
                by_cases c3 : (decide ((L 4).length ≤ 8) && decide (L 4).Nodup) = true
                · rw [if_pos c3, if_pos c3]
                  exact .inr ⟨_, rfl, rfl⟩
                · rw [if_neg c3, if_neg c3]
                  exact .inl ⟨rfl, rfl⟩
              · rw [if_neg c2, if_neg c2]
                exact .inl ⟨rfl, rfl⟩
            · rw [if_neg c1, if_neg c1]
              exact .inl ⟨rfl, rfl⟩
        · exact ⟨rfl, q D ((DO _).mpr eD) x H' (Oth.ex (XX.trans XM) (ex_fresh XX nx) O') (ex_fresh XX nx) DA⟩
        · exact qe ((DO _).mpr eN) H' (Oth.ex (XX.trans XM) (ex_fresh XX nx) O')

theorem ok_days_of {P : Program} {w : World} {K : PySem.W.Frag} {mg : Str → Option Value} {base : Heap} (T : Env K mg) : Fc P w K mg base 7 (He.ga K "days_of") [] (sp_days_of K) := by
  obtain ⟨fd, D, F⟩ := fb_days_of T
  exact F.all (D.bindsN fun _ _ _ _ _ _ us hl => match us, hl with | [_], _ => rfl)
end
section
def sp_read_days (K : PySem.W.Frag) : Sp := fun vs H Q E => ∃ x, vs = [x] ∧ ((∃ l : List Nat, x = .str (SX.S l) ∧ l.length ≤ 4000 ∧ (∀ w ∈ TL.spl [32] 0 [] l, w.length ≤ 150) ∧ (∀ D, readD l = some D → ∀ a H', Ex H H' → H a = none → DaysAt K H' a D → Q (.ref a) H') ∧ (readD l = none → ∀ H', Ex H H' → E (.ref (He.ga K "NoDays")) none H')) ∨
  (∃ t, TyX K H x t ∧ PySem.W.kitOne K t (.type "str") = some false ∧ E (.ref (He.ga K "NoDays")) none H))
theorem fb_read_days {P : Program} {w : World} {K : PySem.W.Frag} {mg : Str → Option Value} {base : Heap} (T : Env K mg) : ∃ fd, FunD K "read_days" "read_days" (defArgs s_read_days) (defBody s_read_days) (defScope s_read_days) [] [] (He.ga K "read_days") fd ∧ Fb P w K mg base 8 (He.ga K "read_days") fd ["text"] (sp_read_days K) := by
  obtain ⟨fd, F⟩ := T.f_read_days
  refine ⟨fd, F, fb_of F sc_read_days (fun vs H Q E h => ?_) (fun cdv A outer s H vs Q E hr h => ?_)⟩
  · obtain ⟨x, rfl, _⟩ := h
    rfl
  · obtain ⟨x, rfl, h⟩ := h
    refine ⟨_, (pss_cons (ps_if (pt_not (pt_val (pe_callB call_isi (by rfl) T.n_isinstance (by decide +kernel) (pa_cons (pv 0) (pa_cons (pe_bltn (v := .ty "str") (by rfl) T.n_str (by decide +kernel) rfl) pa_nil)))))
      (pss_one (ps_raise rfl (takes_of rfl rfl rfl rfl) (pmk_own PySem.F.excBase_ValueError T.x_NoDays.x T.g_NoDays T.x_NoDays.kp (raises_own T.x_NoDays.sub T.x_NoDays.ty) rfl)))
      pss_nil)
      (pss_cons (ps_set (i := 1) sc_read_days.nd rfl (Or.inl rfl) (c_call (ok_days_of T) (hr.mono (by decide)) T.g_days_of T.k_days_of (takes_of rfl rfl rfl rfl) (pa_cons (pe_split (pv 0) pe_str) pa_nil)))
      (pss_cons (ps_if (pt_cmpR op_ne (pe_callTy (call_strO T.m_Days_str (ok_Days_str T) (hr.mono (by decide))) (by rfl) T.n_str (by decide +kernel) (pa_cons (pv 1) pa_nil)) (pv 0) (nomark _))
      (pss_one (ps_raise rfl (takes_of rfl rfl rfl rfl) (pmk_own PySem.F.excBase_ValueError T.x_NoDays.x T.g_NoDays T.x_NoDays.kp (raises_own T.x_NoDays.sub T.x_NoDays.ty) rfl)))
      pss_nil)
      (pss_one (ps_ret (pv 1)))))), ?_⟩
    rcases h with ⟨l, rfl, ll, lw, q, qe⟩ | ⟨t, ty, kt, qe⟩
    · refine ⟨_, rfl, _, .ty "str", _, _, true, rfl, .ty "str", .base (.str _), kit_ty (by decide +kernel), true, rfl, iteF ?_⟩
      refine ⟨_, rfl, ⟨_, rfl⟩, SX.S l, SX.S [32], rfl, rfl, rfl, sz_le (by rw [SX.S_len]; omega), fun p np => ?_⟩
      rw [SX.split_S (by decide) (by decide)]
      have X1 := ex_new (o := .lst (((TL.spl [32] 0 [] l).map SX.S).map V.str)) np
      have wne : TL.spl [32] 0 [] l ≠ [] := Mo.spl_ne _ _ _ _
      have wl := (Mo.spl_le 32 l.length l (Nat.le_refl _)).2
      refine ⟨p, TL.spl [32] 0 [] l, rfl, by rw [upd_same, sV_str], wne, by omega, lw, fun D eD a H2 X2 na DA => ?_, fun eN H2 X2 => ?_⟩
      · obtain ⟨okD, fitD⟩ := daysOf_ok lw eD
        obtain ⟨dx, r, po, pa, h1, _⟩ := id DA
        refine ⟨_, rfl, a, dx, _, rfl, h1, a, D, rfl, DA, okD, fitD, fun H3 X3 => ⟨trivial, _, rfl, rfl, _, rfl, ?_⟩⟩
        by_cases c : dtxt D = l
        · rw [decide_eq_true (show V.str (SX.S (dtxt D)) = V.str (SX.S l) by rw [c])]
          refine iteF ?_
          exact ⟨_, rfl, q D (by unfold readD; rw [eD]; exact if_pos c) a H3 ((X1.trans X2).trans X3) (ex_fresh X1 na) (DA.mono X3)⟩
        · rw [decide_eq_false (show ¬ V.str (SX.S (dtxt D)) = V.str (SX.S l) from fun z => by injection z with z; exact c (SX.S_inj z))]
          refine iteT ?_
          exact qe (by unfold readD; rw [eD]; exact if_neg c) H3 ((X1.trans X2).trans X3)
      · exact qe (by unfold readD; rw [eN]) H2 (X1.trans X2)
    · exact ⟨_, rfl, x, .ty "str", _, _, false, rfl, .ty "str", ty, kt, false, rfl, qe⟩

theorem ok_read_days {P : Program} {w : World} {K : PySem.W.Frag} {mg : Str → Option Value} {base : Heap} (T : Env K mg) : Fc P w K mg base 8 (He.ga K "read_days") [] (sp_read_days K) := by
  obtain ⟨fd, D, F⟩ := fb_read_days T
  exact F.all (D.bindsN fun _ _ _ _ _ _ us hl => match us, hl with | [_], _ => rfl)
end
section
/-- a pot: what is left of a cell's digits, and what mixes -/
def Pot (H : Hp) (p : Addr) : Prop := ∃ a b c : Int, H p = some (.lst [.int a, .int b, .int c]) ∧ 0 ≤ b ∧ b < 2147483629
def sp__law_pot (K : PySem.W.Frag) : Sp := fun vs H Q _ => ∃ (a : Addr) (ns : List Int) (k : Int), vs = [.ref a, .int k] ∧ SqL K H a (ns.map V.int) ∧ 0 ≤ k ∧ k < 1000 ∧ ∀ p H', H p = none → Pot H' p → (∀ b, b ≠ p → H' b = H b) → Q (.ref p) H'
theorem fb__law_pot {P : Program} {w : World} {K : PySem.W.Frag} {mg : Str → Option Value} {base : Heap} (T : Env K mg) : ∃ fd, FunD K "_law_pot" "_law_pot" (defArgs s__law_pot) (defBody s__law_pot) (defScope s__law_pot) [] [] (He.ga K "_law_pot") fd ∧ Fb P w K mg base 1 (He.ga K "_law_pot") fd ["_law_script", "_law_k"] (sp__law_pot K) := by
  obtain ⟨fd, F⟩ := T.f__law_pot
  refine ⟨fd, F, fb_of F sc__law_pot (fun vs H Q E h => ?_) (fun cdv A outer s H vs Q E hr h => ?_)⟩
  · obtain ⟨a, ns, k, rfl, _⟩ := h
    rfl
  · obtain ⟨a, ns, k, rfl, hS, k0, k1, q⟩ := h
    refine ⟨_, (Evl.pss_cut (ps_set (i := 2) sc__law_pot.nd rfl (Or.inl rfl) (pe_ifExp (pt_cmpR op_lt (pv 1) (pe_callB call_len (by rfl) T.n_len (by decide +kernel) (pa_cons (pv 0) pa_nil)) (nomark _)) (pe_ix ix_list (pv 0) (pv 1) (fun _ _ => rfl)) pe_int))
      (pss_one (ps_ret (pe_lst (pa_cons (pe_callB (call_max2 rfl) (by rfl) T.n_max (by decide +kernel) (pa_cons pe_int (pa_cons (pe_op op_sub (pv 2) (pe_op op_pow pe_int pe_int)) pa_nil))) (pa_cons (pe_op op_mod (pe_op op_pow (pe_op op_add (pe_op op_mul (pe_op op_mod (pv 2) pe_int) pe_int) (pe_op op_mul pe_int (pe_op op_add (pv 1) pe_int))) pe_int) pe_int) (pa_cons pe_int pa_nil))))))), ?_⟩
    refine ⟨fun σ' H' => H' = H ∧ ∃ cell : Int, σ' = [some (.ref a), some (.int k), some (.int cell)], ?_, ?_⟩
    · refine ⟨_, rfl, _, rfl, _, _, rfl, .inl ⟨_, hS, rfl⟩, _, _, rfl, rfl, _, rfl, ite2 (fun c => ?_) (fun c => ?_)⟩
      · have c2 : k < ((ns.map V.int).length : Int) := of_decide_eq_true c
        rw [List.length_map] at c2
        obtain ⟨i, rfl⟩ := Int.eq_ofNat_of_zero_le k0
        have hi : i < ns.length := Int.ofNat_lt.mp c2
        refine ⟨_, rfl, _, rfl, a, _, _, .int ns[i], rfl, rfl, hS, ?_, rfl, ns[i], rfl⟩
        exact atI_nat (by rw [List.getElem?_map, List.getElem?_eq_getElem hi]; rfl)
      · exact ⟨rfl, 0, rfl⟩
    · rintro σ' H' ⟨rfl, cell, rfl⟩
      have m1 := Int.emod_nonneg cell (show (2147483629 : Int) ≠ 0 by decide)
      have m2 := Int.emod_lt_of_pos cell (show (0 : Int) < 2147483629 by decide)
      refine ⟨_, rfl, _, _, rfl, rfl, ⟨by decide, by decide, by decide⟩, _, _, rfl, rfl, _, _, rfl, ?_⟩
      refine ⟨_, rfl, _, _, rfl, rfl, (by show (0 : Int) < 2147483629; decide), _, _, rfl, rfl, .inr (by decide), _, rfl, _, _, rfl, rfl, _, _, rfl, rfl, .inl (by decide), _, _, rfl, rfl, _, _, rfl, rfl, ⟨by decide, by decide, ?_⟩, _, _, rfl, rfl, (by show (0 : Int) < 2147483563; decide), ?_⟩
      · show (cell % 2147483629 * 69621 + 40503 * (k + 1)).natAbs < 2 ^ 64
        omega
      · refine ⟨by show 3 ≤ sizeLine; decide, fun p hp => ?_⟩
        refine q p _ hp ⟨_, _, _, upd_same, Int.emod_nonneg _ (by decide), Int.lt_trans (Int.emod_lt_of_pos _ (by decide)) (by decide)⟩ fun b n => upd_ne n

theorem ok__law_pot {P : Program} {w : World} {K : PySem.W.Frag} {mg : Str → Option Value} {base : Heap} (T : Env K mg) : Fc P w K mg base 1 (He.ga K "_law_pot") [] (sp__law_pot K) := by
  obtain ⟨fd, D, F⟩ := fb__law_pot T
  exact F.all (D.bindsN fun _ _ _ _ _ _ us hl => match us, hl with | [_, _], _ => rfl)
end
section
/-- the pot at p is drawn from: everything else stays -/
def PotOn (H H' : Hp) (p : Addr) : Prop := Pot H' p ∧ ∀ b o, b ≠ p → H b = some o → H' b = some o
theorem PotOn.refl {H : Hp} {p : Addr} (h : Pot H p) : PotOn H H p := ⟨h, fun _ _ _ e => e⟩
theorem PotOn.trans {H H1 H2 : Hp} {p : Addr} (a : PotOn H H1 p) (b : PotOn H1 H2 p) : PotOn H H2 p := ⟨b.1, fun c o n e => b.2 c o n (a.2 c o n e)⟩
theorem pot_new {H H' : Hp} {p l : Addr} {o : HO} (P : PotOn H H' p) (n : H' l = none) : PotOn H (upd H' l o) p := by
  obtain ⟨⟨x, y, z, e, r⟩, k⟩ := P
  refine ⟨⟨x, y, z, by rw [upd_ne (ne_of_none e n)]; exact e, r⟩, fun b u nb h => ?_⟩
  rw [upd_ne (ne_of_none (k b u nb h) n)]
  exact k b u nb h
def sp__law_take (K : PySem.W.Frag) : Sp := fun vs H Q _ => ∃ (p : Addr) (n : Int), vs = [.ref p, .int n] ∧ Pot H p ∧ 0 < n ∧ n < 1073741824 ∧ ∀ (d : Int) H', 0 ≤ d → d < n → PotOn H H' p → Q (.int d) H'
theorem fb__law_take {P : Program} {w : World} {K : PySem.W.Frag} {mg : Str → Option Value} {base : Heap} (T : Env K mg) : ∃ fd, FunD K "_law_take" "_law_take" (defArgs s__law_take) (defBody s__law_take) (defScope s__law_take) [] [] (He.ga K "_law_take") fd ∧ Fb P w K mg base 1 (He.ga K "_law_take") fd ["_law_pot_here", "_law_many"] (sp__law_take K) := by
  obtain ⟨fd, F⟩ := T.f__law_take
  refine ⟨fd, F, fb_of F sc__law_take (fun vs H Q E h => ?_) (fun cdv A outer s H vs Q E hr h => ?_)⟩
  · obtain ⟨p, n, rfl, _⟩ := h
    rfl
  · obtain ⟨p, n, rfl, ⟨a, b, c, hp, b0, b1⟩, n0, n1, q⟩ := h
    refine ⟨_, (pss_cons (ps_if (pt_cmpR op_gt (pe_ix ix_list (pv 0) pe_int (fun _ _ => rfl)) pe_int (nomark _))
      (pss_cons (ps_asg (pe_callB call_divmodW (by rfl) T.n_divmod (by decide +kernel) (pa_cons (pe_ix ix_list (pv 0) pe_int (fun _ _ => rfl)) (pa_cons (pv 1) pa_nil))) (pg_tup (by rfl) (pgs_cons (pg_sub (pv 0) pe_int set_list) (pgs_cons (pg_name (i := 2) sc__law_take.nd rfl (Or.inl rfl)) pgs_nil))))
      (pss_one (ps_ret (pv 2))))
      pss_nil)
      (pss_cons (ps_asg (pe_op op_add (pe_ix ix_list (pv 0) pe_int (fun _ _ => rfl)) pe_int) (pg_sub (pv 0) pe_int set_list))
      (pss_cons (ps_asg (pe_op op_mod (pe_op op_add (pe_op op_mul (pe_ix ix_list (pv 0) pe_int (fun _ _ => rfl)) pe_int) (pe_op op_mul pe_int (pe_ix ix_list (pv 0) pe_int (fun _ _ => rfl)))) pe_int) (pg_sub (pv 0) pe_int set_list))
      (pss_one (ps_ret (pe_op op_mod (pe_op op_fdiv (pe_op op_mod (pe_op op_mul (pe_ix ix_list (pv 0) pe_int (fun _ _ => rfl)) (pe_ix ix_list (pv 0) pe_int (fun _ _ => rfl))) pe_int) pe_int) (pv 1))))))), ?_⟩
    refine ⟨_, rfl, p, _, _, .int a, rfl, rfl, sq_lst hp, rfl, _, _, rfl, rfl, _, rfl, ite2 (fun _ => ?_) (fun _ => ?_)⟩
    · refine ⟨_, rfl, p, _, _, .int a, rfl, rfl, sq_lst hp, rfl, _, rfl, a, n, rfl, ⟨n0, PyProof.noPylong_small (by omega)⟩, fun t ht => ?_⟩
      have pt : p ≠ t := ne_of_none hp ht
      refine ⟨t, _, rfl, sq_tup upd_same, rfl, _, _, rfl, _, rfl, p, [.int a, .int b, .int c], 0, 0, rfl, rfl, (by rw [upd_ne pt]; exact hp), rfl, _, _, rfl, rfl, _, rfl, ?_⟩
      refine q _ _ (Int.emod_nonneg _ (by omega)) (Int.emod_lt_of_pos _ n0) ⟨⟨_, _, _, upd_same, b0, b1⟩, fun x o nx e => ?_⟩
      rw [upd_ne nx, upd_ne (ne_of_none e ht)]
      exact e
    · refine ⟨_, rfl, p, _, _, .int c, rfl, rfl, sq_lst hp, rfl, _, _, rfl, rfl, _, rfl, p, _, 2, 2, rfl, rfl, hp, rfl, ?_⟩
      refine ⟨_, rfl, p, _, _, .int b, rfl, rfl, sq_lst upd_same, rfl, _, _, rfl, rfl, .inr (by decide), _, rfl, p, _, _, .int (c + 1), rfl, rfl, sq_lst upd_same, rfl, _, _, rfl, rfl, .inl (by decide), _, _, rfl, rfl, _, _, rfl, rfl, (by show (0 : Int) < 2147483629; decide), _, rfl, p, _, 1, 1, rfl, rfl, upd_same, rfl, ?_⟩
      have m1 := Int.emod_nonneg (b * 48271 + 11213 * (c + 1)) (show (2147483629 : Int) ≠ 0 by decide)
      have m2 := Int.emod_lt_of_pos (b * 48271 + 11213 * (c + 1)) (show (0 : Int) < 2147483629 by decide)
      refine ⟨_, rfl, p, _, _, .int ((b * 48271 + 11213 * (c + 1)) % 2147483629), rfl, rfl, sq_lst upd_same, rfl, _, rfl, p, _, _, .int ((b * 48271 + 11213 * (c + 1)) % 2147483629), rfl, rfl, sq_lst upd_same, rfl, _, _, rfl, rfl, .inl ⟨by omega, by omega⟩, _, _, rfl, rfl, (by show (0 : Int) < 2147483587; decide), _, _, rfl, rfl, ⟨by decide, by decide⟩, _, rfl, _, _, rfl, rfl, n0, ?_⟩
      refine q _ _ (Int.emod_nonneg _ (by omega)) (Int.emod_lt_of_pos _ n0) ⟨⟨_, _, _, upd_same, m1, m2⟩, fun x o nx e => ?_⟩
      rw [upd_ne nx, upd_ne nx]
      exact e
theorem PotOn.ex {H0 H H' : Hp} {p : Addr} (e : Ex H0 H) (n : H0 p = none) (P : PotOn H H' p) : Ex H0 H' := fun b o h => P.2 b o (ne_of_none h n) (e b o h)
theorem pot_upd {H H' : Hp} {p l : Addr} {o : HO} (P : PotOn H H' p) (n : H l = none) (ne : l ≠ p) : PotOn H (upd H' l o) p := by
  obtain ⟨⟨x, y, z, e, r⟩, k⟩ := P
  refine ⟨⟨x, y, z, by rw [upd_ne (Ne.symm ne)]; exact e, r⟩, fun b u nb h => ?_⟩
  rw [upd_ne (ne_of_none h n)]
  exact k b u nb h
theorem PotOn.then {H H1 H2 : Hp} {p : Addr} (P : PotOn H H1 p) (np : H p = none) (e : Ex H1 H2) : PotOn H H2 p := by
  obtain ⟨⟨x, y, z, h, r⟩, k⟩ := P
  exact ⟨⟨x, y, z, e _ _ h, r⟩, fun b u nb h => e _ _ (k b u nb h)⟩
theorem PotOn.ex2 {H H1 H2 : Hp} {p : Addr} (P : PotOn H H1 p) (e : Ex H1 H2) : PotOn H H2 p := by
  obtain ⟨⟨x, y, z, h, r⟩, k⟩ := P
  exact ⟨⟨x, y, z, e _ _ h, r⟩, fun b u nb h => e _ _ (k b u nb h)⟩
theorem pot_ne {H H' : Hp} {p l : Addr} (P : PotOn H H' p) (n : H' l = none) : l ≠ p := fun z => by
  obtain ⟨_, _, _, e, _⟩ := P.1
  rw [z, e] at n
  cases n
theorem at_mem {xs : List V} {i : Int} (h0 : 0 ≤ i) (h1 : i < (xs.length : Nat)) : ∃ x, x ∈ xs ∧ atI xs i = some x := by
  obtain ⟨n, rfl⟩ := Int.eq_ofNat_of_zero_le h0
  have hn : n < xs.length := Int.ofNat_lt.mp h1
  exact ⟨xs[n], List.getElem_mem hn, atI_nat (List.getElem?_eq_getElem hn)⟩
theorem PotOn.fresh {H H' : Hp} {p b : Addr} (P : PotOn H H' p) (n : H' b = none) : H b = none := by
  cases e : H b with
  | none => rfl
  | some o =>
    by_cases hb : b = p
    · obtain ⟨_, _, _, e2, _⟩ := P.1
      rw [hb, e2] at n
      cases n
    · rw [P.2 b o hb e] at n
      cases n
theorem pot_other {H : Hp} {p b : Addr} {o : HO} (hp : Pot H p) (h : H b = some o) (ho : ∀ x y z : Int, o ≠ .lst [.int x, .int y, .int z]) : b ≠ p := fun w => by
  obtain ⟨x, y, z, e, _⟩ := hp
  rw [w, e] at h
  exact ho x y z (Option.some.inj h).symm

theorem ok__law_take {P : Program} {w : World} {K : PySem.W.Frag} {mg : Str → Option Value} {base : Heap} (T : Env K mg) : Fc P w K mg base 1 (He.ga K "_law_take") [] (sp__law_take K) := by
  obtain ⟨fd, D, F⟩ := fb__law_take T
  exact F.all (D.bindsN fun _ _ _ _ _ _ us hl => match us, hl with | [_, _], _ => rfl)
end
section
def sp__law_great (K : PySem.W.Frag) : Sp := fun vs H Q _ => ∃ (p : Addr) (n : Int), vs = [.ref p, .int n] ∧ Pot H p ∧ 0 < n ∧ ∀ (d : Int) H', 0 ≤ d → d < n → PotOn H H' p → Q (.int d) H'
theorem fb__law_great {P : Program} {w : World} {K : PySem.W.Frag} {mg : Str → Option Value} {base : Heap} (T : Env K mg) : ∃ fd, FunD K "_law_great" "_law_great" (defArgs s__law_great) (defBody s__law_great) (defScope s__law_great) [] [] (He.ga K "_law_great") fd ∧ Fb P w K mg base 2 (He.ga K "_law_great") fd ["_law_pot_here", "_law_bound"] (sp__law_great K) := by
  obtain ⟨fd, F⟩ := T.f__law_great
  refine ⟨fd, F, fb_of F sc__law_great (fun vs H Q E h => ?_) (fun cdv A outer s H vs Q E hr h => ?_)⟩
  · obtain ⟨p, n, rfl, _⟩ := h
    rfl
  · obtain ⟨p, n, rfl, hp, n0, q⟩ := h
    refine ⟨_, (pss_cons (ps_set (i := 2) sc__law_great.nd rfl (Or.inl rfl) pe_int)
      (pss_cons (ps_for (passes_of rfl) rfl (pi_range1 (by rfl) T.n_range (pa_cons pe_int pa_nil)) (pg_name (i := 3) sc__law_great.nd rfl (Or.inl rfl))
      (pss_one (ps_set (i := 2) sc__law_great.nd rfl (Or.inl rfl) (pe_op op_add (pe_op op_mul (pv 2) (pe_op op_pow pe_int pe_int)) (c_call (ok__law_take T) (hr.mono (by decide)) T.g__law_take T.k__law_take takes0 (pa_cons (pv 0) (pa_cons (pe_op op_pow pe_int pe_int) pa_nil)))))))
      (pss_one (ps_ret (pe_op op_mod (pv 2) (pv 1)))))), ?_⟩
    refine ⟨7, rfl, by decide, by decide, for_range (n := 7) (fun i σ H' => PotOn H H' p ∧ ∃ (f : Int) (v : Option V), σ = [some (.ref p), some (.int n), some (.int f), v] ∧ 0 ≤ f) ⟨.refl hp, 0, none, rfl, Int.le_refl _⟩ ?_ ?_⟩
    · rintro i σ H1 hi ⟨P1, f, v, rfl, f0⟩
      refine ⟨_, rfl, _, _, rfl, rfl, ⟨by decide, by decide, by decide⟩, _, _, rfl, rfl, .inr (by decide), _, rfl, _, _, rfl, rfl, ⟨by decide, by decide, by decide⟩, p, _, rfl, P1.1, by decide, by decide, fun d H2 d0 d1 P2 => ?_⟩
      refine ⟨_, _, rfl, rfl, P1.trans P2, _, _, rfl, ?_⟩
      have : (0 : Int) ≤ f * 10 ^ (9 : Int).toNat := Int.mul_nonneg f0 (by decide)
      omega
    · rintro σ H1 ⟨P1, f, v, rfl, f0⟩
      refine ⟨_, rfl, _, rfl, _, _, rfl, rfl, n0, ?_⟩
      exact q _ _ (Int.emod_nonneg _ (by omega)) (Int.emod_lt_of_pos _ n0) P1

theorem ok__law_great {P : Program} {w : World} {K : PySem.W.Frag} {mg : Str → Option Value} {base : Heap} (T : Env K mg) : Fc P w K mg base 2 (He.ga K "_law_great") [] (sp__law_great K) := by
  obtain ⟨fd, D, F⟩ := fb__law_great T
  exact F.all (D.bindsN fun _ _ _ _ _ _ us hl => match us, hl with | [_, _], _ => rfl)
end
section
def sp__law_bits (K : PySem.W.Frag) : Sp := fun vs H Q _ => ∃ p : Addr, vs = [.ref p] ∧ Pot H p ∧ ∀ (l : List Nat) H', sgn l = true → PotOn H H' p → Q (.str (SX.S l)) H'
/-- a list of one-sign texts -/
def Sgs (xs : List V) (l : List Nat) : Prop := xs = l.map fun c => V.str (SX.S [c])
theorem joinL_ones : ∀ l : List Nat, TL.joinL [] (l.map fun c => [c]) = l
  | [] => rfl
  | [c] => rfl
  | c :: d :: r => by
    show [c] ++ [] ++ TL.joinL [] ((d :: r).map fun c => [c]) = _
    rw [joinL_ones (d :: r)]
    rfl
theorem join_signs (l : List Nat) : Txt.join (Str.ofString "") (l.map fun c => SX.S [c]) = SX.S l := by
  have e := SX.join_S [] (l.map fun c => [c])
  rw [List.map_map, joinL_ones] at e
  exact e
theorem fb__law_bits {P : Program} {w : World} {K : PySem.W.Frag} {mg : Str → Option Value} {base : Heap} (T : Env K mg) : ∃ fd, FunD K "_law_bits" "_law_bits" (defArgs s__law_bits) (defBody s__law_bits) (defScope s__law_bits) [] [] (He.ga K "_law_bits") fd ∧ Fb P w K mg base 2 (He.ga K "_law_bits") fd ["_law_pot_here"] (sp__law_bits K) := by
  obtain ⟨fd, F⟩ := T.f__law_bits
  refine ⟨fd, F, fb_of F sc__law_bits (fun vs H Q E h => ?_) (fun cdv A outer s H vs Q E hr h => ?_)⟩
  · obtain ⟨p, rfl, _⟩ := h
    rfl
  · obtain ⟨p, rfl, hp, q⟩ := h
    refine ⟨_, (pss_one (ps_ret (pe_join pe_str (pe_lc (own := [("_law_k", 1)]) (by rfl) sc__law_bits.nd (pi_range1 (by rfl) T.n_range (pa_cons (pe_op op_add pe_int (c_call (ok__law_take T) (hr.mono (by decide)) T.g__law_take T.k__law_take takes0 (pa_cons (pv 0) (pa_cons pe_int pa_nil)))) pa_nil)) (blkOk_by (own := [("_law_k", 1)]) (N := ["_law_pot_here", "_law_k"]) (sc := defScope s__law_bits) (by decide +kernel)) (fun _ _ _ _ _ => (pg_name (i := 1) sc__law_bits.nd rfl (Or.inl rfl))) (fun _ _ _ _ _ => pts_nil) (fun _ _ _ _ _ => (pe_ix ix_str pe_str (c_call (ok__law_take T) (hr.mono (by decide)) T.g__law_take T.k__law_take takes0 (pa_cons (pv 0) (pa_cons pe_int pa_nil))) (fun _ _ => rfl))))))), ?_⟩
    refine ⟨⟨_, rfl⟩, _, rfl, p, 7, rfl, hp, by decide, by decide, fun d H1 d0 d1 P1 => ⟨_, _, rfl, rfl, _, rfl, by omega, by omega, fun D nD => ?_⟩⟩
    have Dp : D ≠ p := fun z => by
      obtain ⟨_, _, _, e, _⟩ := P1.1
      rw [z, e] at nD
      cases nD
    have nD0 : H D = none := by
      cases e : H D with
      | none => rfl
      | some o =>
        rw [P1.2 D o Dp e] at nD
        cases nD
    refine lc_any (n := (1 + d).toNat) (J := Itr 0 (1 + d).toNat) L2.walk_range (fun i acc H' => PotOn H H' p ∧ ∃ l : List Nat, acc = l.map (fun c => V.str (SX.S [c])) ∧ l.length = i ∧ l.all (fun c => c == 48 || c == 49) = true) (fun i acc H' l e => ⟨pot_upd e.1 nD0 Dp, e.2⟩) ⟨P1, [], rfl, rfl, rfl⟩ (by omega) (fun i acc H' e => ?_) (fun _ _ _ _ => trivial) (fun i x H2 H3 acc N hi e hD la y k _ => ?_) (fun acc H2 e hD => ?_)
    · obtain ⟨_, l, rfl, hl, _⟩ := e
      simp [hl]
    · obtain ⟨rfl, rfl⟩ := y
      obtain ⟨P2, l, rfl, hl, ha⟩ := e
      refine ⟨rfl, _, rfl, p, 2, rfl, P2.1, by decide, by decide, fun b H4 b0 b1 P4 => ?_⟩
      obtain ⟨m, rfl⟩ := Int.eq_ofNat_of_zero_le b0
      have hm : m = 0 ∨ m = 1 := by omega
      have e4 := P4.2 _ _ Dp hD
      rcases hm with rfl | rfl
      · refine ⟨_, _, 48, rfl, rfl, by show 2 ≤ sizeLine; decide, rfl, _, e4, la, ?_⟩
        exact k _ H4 e4 ⟨P2.trans P4, l ++ [48], by simp, by simp [hl], by simp [ha]⟩
      · refine ⟨_, _, 49, rfl, rfl, by show 2 ≤ sizeLine; decide, rfl, _, e4, la, ?_⟩
        exact k _ H4 e4 ⟨P2.trans P4, l ++ [49], by simp, by simp [hl], by simp [ha]⟩
    · obtain ⟨P2, l, rfl, hl, ha⟩ := e
      refine ⟨_, _, l.map (fun c => SX.S [c]), rfl, rfl, .inl (sq_lst (by rw [hD, List.map_map]; rfl)), ?_, ?_⟩
      · have : ∀ l : List Nat, ((l.map (fun c => SX.S [c])).map (·.length)).sum = l.length := fun l => by
          induction l with
          | nil => rfl
          | cons c r ih =>
            show 1 + ((r.map (fun c => SX.S [c])).map (·.length)).sum = r.length + 1
            omega
        rw [this, List.length_map]
        have z : (Str.ofString "").length = 0 := rfl
        rw [z]
        omega
      rw [join_signs]
      refine q l H2 ?_ P2
      unfold sgn
      rw [ha, decide_eq_true (by omega)]
      rfl

theorem ok__law_bits {P : Program} {w : World} {K : PySem.W.Frag} {mg : Str → Option Value} {base : Heap} (T : Env K mg) : Fc P w K mg base 2 (He.ga K "_law_bits") [] (sp__law_bits K) := by
  obtain ⟨fd, D, F⟩ := fb__law_bits T
  exact F.all (D.bindsN fun _ _ _ _ _ _ us hl => match us, hl with | [_], _ => rfl)
end
section
def optLt (o : Option Nat) (b : Nat) : Prop := ∀ t, o = some t → t < b
def sp__law_near (K : PySem.W.Frag) : Sp := fun vs H Q _ => ∃ (p : Addr) (lo : Nat) (hi : Option Nat), vs = [.ref p, .int lo, optV hi] ∧ Pot H p ∧ lo < 10 ^ 20 ∧ optLt hi (10 ^ 20) ∧ ∀ (n : Nat) H', n < 10 ^ 21 → PotOn H H' p → Q (.int n) H'
theorem fb__law_near {P : Program} {w : World} {K : PySem.W.Frag} {mg : Str → Option Value} {base : Heap} (T : Env K mg) : ∃ fd, FunD K "_law_near" "_law_near" (defArgs s__law_near) (defBody s__law_near) (defScope s__law_near) [] [] (He.ga K "_law_near") fd ∧ Fb P w K mg base 3 (He.ga K "_law_near") fd ["_law_pot_here", "_law_low", "_law_high"] (sp__law_near K) := by
  obtain ⟨fd, F⟩ := T.f__law_near
  refine ⟨fd, F, fb_of F sc__law_near (fun vs H Q E h => ?_) (fun cdv A outer s H vs Q E hr h => ?_)⟩
  · obtain ⟨p, lo, hi, rfl, _⟩ := h
    rfl
  · obtain ⟨p, lo, hi, rfl, hp, hlo, hhi, q⟩ := h
    refine ⟨_, (pss_cons (ps_set (i := 3) sc__law_near.nd rfl (Or.inl rfl) (c_call (ok__law_take T) (hr.mono (by decide)) T.g__law_take T.k__law_take takes0 (pa_cons (pv 0) (pa_cons pe_int pa_nil))))
      (pss_cons (ps_if (pt_cmpR op_eq (pv 3) pe_int (nomark _))
      (pss_one (ps_ret (c_call (ok__law_take T) (hr.mono (by decide)) T.g__law_take T.k__law_take takes0 (pa_cons (pv 0) (pa_cons pe_int pa_nil)))))
      pss_nil)
      (Evl.pss_cut (ps_if (PW.pt (pw_and (pt_cmpR op_eq (pv 3) pe_int (nomark _)) (pw_and1 (pt_cmpR op_notN (pv 2) pe_non (nomark _)))))
      (pss_one (ps_ret (pe_callB (call_max2 rfl) (by rfl) T.n_max (by decide +kernel) (pa_cons pe_int (pa_cons (pe_op op_sub (pe_op op_add (pv 2) pe_int) (c_call (ok__law_take T) (hr.mono (by decide)) T.g__law_take T.k__law_take takes0 (pa_cons (pv 0) (pa_cons pe_int pa_nil)))) pa_nil)))))
      pss_nil)
      (pss_cons (ps_if (pt_cmpR op_eq (pv 3) pe_int (nomark _))
      (pss_one (ps_ret (c_call (ok__law_great T) (hr.mono (by decide)) T.g__law_great T.k__law_great takes0 (pa_cons (pv 0) (pa_cons (pe_op op_pow pe_int pe_int) pa_nil)))))
      pss_nil)
      (pss_one (ps_ret (pe_callB (call_max2 rfl) (by rfl) T.n_max (by decide +kernel) (pa_cons pe_int (pa_cons (pe_op op_add (pe_op op_sub (pv 1) pe_int) (c_call (ok__law_take T) (hr.mono (by decide)) T.g__law_take T.k__law_take takes0 (pa_cons (pv 0) (pa_cons pe_int pa_nil)))) pa_nil))))))))), ?_⟩
    refine ⟨_, rfl, p, 6, rfl, hp, by decide, by decide, fun way H1 w0 w1 P1 => ?_⟩
    refine ⟨_, rfl, rfl, _, rfl, ite2 (fun _ => ?_) (fun _ => ?_)⟩
    · refine ⟨_, rfl, p, 30, rfl, P1.1, by decide, by decide, fun d H2 d0 d1 P2 => ?_⟩
      obtain ⟨m, rfl⟩ := Int.eq_ofNat_of_zero_le d0
      exact q m H2 (Nat.lt_trans (show m < 30 by omega) (by decide +kernel)) (P1.trans P2)
    · refine ⟨fun σ' H' => H' = H1 ∧ σ' = [some (.ref p), some (.int lo), some (optV hi), some (.int way)], ?_, ?_⟩
      · refine ⟨_, rfl, rfl, _, rfl, ite2 (fun _ => ?_) (fun _ => ?_)⟩
        · refine ⟨_, rfl, rfl, _, rfl, ?_⟩
          cases hi with
          | none => exact ⟨rfl, rfl⟩
          | some t =>
            have ht := hhi t rfl
            refine ⟨_, rfl, _, _, rfl, rfl, _, rfl, p, 12, rfl, P1.1, by decide, by decide, fun d H2 d0 d1 P2 => ⟨_, _, rfl, rfl, _, _, rfl, ?_⟩⟩
            have e : (if ((t : Nat) : Int) + 5 - d > 0 then ((t : Nat) : Int) + 5 - d else 0) = (((((t : Nat) : Int) + 5 - d).toNat : Nat) : Int) := by split <;> omega
            rw [e]
            exact q _ H2 (by omega) (P1.trans P2)
        · exact ⟨rfl, rfl⟩
      rintro σ' H2 ⟨rfl, rfl⟩
      refine ⟨_, rfl, rfl, _, rfl, ite2 (fun _ => ?_) (fun _ => ?_)⟩
      · refine ⟨_, rfl, _, _, rfl, rfl, ⟨by decide, by decide, by decide⟩, p, _, rfl, P1.1, by decide, fun d H2 d0 d1 P2 => ?_⟩
        obtain ⟨m, rfl⟩ := Int.eq_ofNat_of_zero_le d0
        have d2 : (m : Int) < 10 ^ 18 := d1
        exact q m H2 (by omega) (P1.trans P2)
      · refine ⟨_, rfl, _, _, rfl, rfl, _, rfl, p, 25, rfl, P1.1, by decide, by decide, fun d H2 d0 d1 P2 => ⟨_, _, rfl, rfl, _, _, rfl, ?_⟩⟩
        have e : (if ((lo : Nat) : Int) - 3 + d > 0 then ((lo : Nat) : Int) - 3 + d else 0) = (((((lo : Nat) : Int) - 3 + d).toNat : Nat) : Int) := by split <;> omega
        rw [e]
        exact q _ H2 (by omega) (P1.trans P2)

theorem ok__law_near {P : Program} {w : World} {K : PySem.W.Frag} {mg : Str → Option Value} {base : Heap} (T : Env K mg) : Fc P w K mg base 3 (He.ga K "_law_near") [] (sp__law_near K) := by
  obtain ⟨fd, D, F⟩ := fb__law_near T
  exact F.all (D.bindsN fun _ _ _ _ _ _ us hl => match us, hl with | [_, _, _], _ => rfl)
end
section
def sp__law_few (K : PySem.W.Frag) : Sp := fun vs H Q _ => ∃ (p : Addr) (lo : Nat) (hi : Option Nat) (tk : Addr) (ts : List Nat), vs = [.ref p, .int lo, optV hi, .ref tk] ∧ Pot H p ∧ lo < 10 ^ 20 ∧ optLt hi (10 ^ 20) ∧ H tk = some (.lst (natV ts)) ∧ tk ≠ p ∧ ts.length ≤ 100 ∧
  ∀ (a : Addr) (ns : List Nat) H', H a = none → H' a = some (.lst (natV ns)) → a ≠ p → ns.length ≤ 8 → ns.Nodup → (∀ n ∈ ns, n < 10 ^ 21 ∧ n ∉ ts) → PotOn H H' p → Q (.ref a) H'
theorem fb__law_few {P : Program} {w : World} {K : PySem.W.Frag} {mg : Str → Option Value} {base : Heap} (T : Env K mg) : ∃ fd, FunD K "_law_few" "_law_few" (defArgs s__law_few) (defBody s__law_few) (defScope s__law_few) [] [] (He.ga K "_law_few") fd ∧ Fb P w K mg base 4 (He.ga K "_law_few") fd ["_law_pot_here", "_law_low", "_law_high", "_law_taken"] (sp__law_few K) := by
  obtain ⟨fd, F⟩ := T.f__law_few
  refine ⟨fd, F, fb_of F sc__law_few (fun vs H Q E h => ?_) (fun cdv A outer s H vs Q E hr h => ?_)⟩
  · obtain ⟨p, lo, hi, tk, ts, rfl, _⟩ := h
    rfl
  · obtain ⟨p, lo, hi, tk, ts, rfl, hp, hlo, hhi, htk, ntk, lts, q⟩ := h
    refine ⟨_, (pss_cons (ps_set (i := 4) sc__law_few.nd rfl (Or.inl rfl) (pe_lst pa_nil))
      (pss_cons (ps_for (passes_of rfl) rfl (pi_range1 (by rfl) T.n_range (pa_cons (pe_ix ix_list (pe_lst (pa_cons pe_int (pa_cons pe_int (pa_cons pe_int (pa_cons pe_int (pa_cons pe_int (pa_cons pe_int (pa_cons pe_int (pa_cons pe_int pa_nil))))))))) (c_call (ok__law_take T) (hr.mono (by decide)) T.g__law_take T.k__law_take takes0 (pa_cons (pv 0) (pa_cons pe_int pa_nil))) (fun _ _ => rfl)) pa_nil)) (pg_name (i := 5) sc__law_few.nd rfl (Or.inl rfl))
      (pss_cons (ps_set (i := 6) sc__law_few.nd rfl (Or.inl rfl) (c_call (ok__law_near T) (hr.mono (by decide)) T.g__law_near T.k__law_near takes0 (pa_cons (pv 0) (pa_cons (pv 1) (pa_cons (pv 2) pa_nil)))))
      (pss_one (ps_if (pt_cmpR op_notIn_seq (pv 6) (pe_op op_cat (pv 4) (pv 3)) (by rfl))
      (pss_one (ps_expr (pe_bm PySem.F.plainAttrs_list PySem.F.slot_list_append PySem.F.type_list_append mt_append (pv 4) (pa_cons (pv 6) pa_nil))))
      pss_nil))))
      (pss_one (ps_ret (pv 4))))), ?_⟩
    refine ⟨by show 0 ≤ sizeLine; decide, fun f nf => ?_⟩
    have fp : f ≠ p := pot_ne (.refl hp) nf
    have P1 := fun o => pot_new (o := o) (.refl hp) nf
    refine ⟨by show 8 ≤ sizeLine; decide, fun l nl => ?_⟩
    have lp : l ≠ p := pot_ne (P1 _) nl
    have P2 := fun o => pot_new (o := o) (P1 _) nl
    refine ⟨_, rfl, p, 8, rfl, (P2 _).1, by decide, by decide, fun d H3 d0 d1 P3 => ?_⟩
    obtain ⟨x, hx, ex⟩ := at_mem (xs := [.int 0, .int 0, .int 1, .int 2, .int 3, .int 5, .int 8, .int 8]) d0 (by show d < 8; exact d1)
    refine ⟨l, _, _, x, rfl, rfl, sq_lst (P3.2 _ _ lp upd_same), ex, ?_⟩
    have hc : ∃ c : Nat, x = .int (c : Int) ∧ c ≤ 8 := by
      simp only [List.mem_cons, List.not_mem_nil, or_false] at hx
      rcases hx with rfl | rfl | rfl | rfl | rfl | rfl | rfl | rfl
      · exact ⟨0, rfl, by decide⟩
      · exact ⟨0, rfl, by decide⟩
      · exact ⟨1, rfl, by decide⟩
      · exact ⟨2, rfl, by decide⟩
      · exact ⟨3, rfl, by decide⟩
      · exact ⟨5, rfl, by decide⟩
      · exact ⟨8, rfl, by decide⟩
      · exact ⟨8, rfl, by decide⟩
    obtain ⟨c, rfl, c8⟩ := hc
    have hf3 := P3.2 _ _ fp (ex_new nl _ _ upd_same)
    refine ⟨_, rfl, by omega, by omega, for_range (fun i σ H' => PotOn H H' p ∧ ∃ (ns : List Nat) (v5 v6 : Option V), σ = [some (.ref p), some (.int lo), some (optV hi), some (.ref tk), some (.ref f), v5, v6] ∧ H' f = some (.lst (natV ns)) ∧ ns.length ≤ i ∧ ns.Nodup ∧ ∀ n ∈ ns, n < 10 ^ 21 ∧ n ∉ ts) ⟨(P2 _).trans P3, [], _, _, rfl, hf3, Nat.le_refl _, List.nodup_nil, fun n hn => absurd hn (by simp)⟩ ?_ ?_⟩
    · rintro i σ H4 hi4 ⟨P4, ns, v5, v6, rfl, h4, ln, nd, hb⟩
      have i8 : i < 8 := by omega
      refine ⟨_, rfl, _, rfl, _, rfl, p, lo, hi, rfl, P4.1, hlo, hhi, fun n H5 hn P5 => ?_⟩
      have P45 := P4.trans P5
      have hf5 := P5.2 _ _ fp h4
      have ht5 := P45.2 _ _ ntk htk
      refine ⟨_, rfl, _, rfl, _, rfl, f, tk, _, _, rfl, rfl, hf5, ht5, ?_, fun c2 nc => ?_⟩
      · rw [natV_len, natV_len]
        exact Nat.le_of_lt (small_len (by omega))
      have ea : natV ns ++ natV ts = natV (ns ++ ts) := by
        unfold natV
        rw [List.map_append]
      rw [ea]
      refine ⟨c2, _, rfl, .inl (sq_lst upd_same), rfl, flat_nat _, _, rfl, ?_⟩
      have P6 := fun o => pot_new (o := o) P45 nc
      have hf6 := fun o => ex_new (o := o) nc _ _ hf5
      rw [inV_nat]
      by_cases hm : n ∈ ns ++ ts
      · rw [decide_eq_true hm]
        exact ⟨P6 _, ns, _, _, rfl, hf6 _, by omega, nd, hb⟩
      · rw [decide_eq_false hm]
        refine ⟨_, rfl, .inl ⟨rfl, _, sq_lst (hf6 _)⟩, _, rfl, f, _, _, rfl, rfl, hf6 _, small_len (by rw [natV_len]; omega), ?_⟩
        refine ⟨pot_upd (P6 _) nf fp, ns ++ [n], _, _, rfl, ?_, by simp; omega, ?_, ?_⟩
        · rw [upd_same]
          unfold natV
          simp
        · exact List.nodup_append.mpr ⟨nd, by simp, fun a ha b hb e => by simp at hb; subst hb; subst e; exact hm (List.mem_append_left _ ha)⟩
        · intro m hmm
          rcases List.mem_append.mp hmm with hmm | hmm
          · exact hb m hmm
          · simp at hmm
            subst hmm
            exact ⟨hn, fun z => hm (List.mem_append_right _ z)⟩
    · rintro σ H4 ⟨P4, ns, v5, v6, rfl, h4, ln, nd, hb⟩
      exact ⟨_, rfl, q f ns H4 nf h4 fp (by omega) nd hb P4⟩

theorem ok__law_few {P : Program} {w : World} {K : PySem.W.Frag} {mg : Str → Option Value} {base : Heap} (T : Env K mg) : Fc P w K mg base 4 (He.ga K "_law_few") [] (sp__law_few K) := by
  obtain ⟨fd, D, F⟩ := fb__law_few T
  exact F.all (D.bindsN fun _ _ _ _ _ _ us hl => match us, hl with | [_, _, _, _], _ => rfl)
end
section
def DaysD.lt (D : DaysD) : Prop := D.since < 10 ^ 20 ∧ optLt D.till (10 ^ 20) ∧ (∀ n ∈ D.out, n < 10 ^ 21) ∧ ∀ n ∈ D.also, n < 10 ^ 21
/-- at t what a law has drawn for days -/
def SomeAt (H : Hp) (t g m : Addr) (D : DaysD) : Prop := H t = some (.tup [.str (SX.S D.bits), .int (D.since : Nat), optV D.till, .ref g, .ref m]) ∧ H g = some (.lst (natV D.out)) ∧ H m = some (.lst (natV D.also))
theorem SomeAt.mono {H H' : Hp} {t g m : Addr} {D : DaysD} (h : SomeAt H t g m D) (e : Ex H H') : SomeAt H' t g m D := ⟨e _ _ h.1, e _ _ h.2.1, e _ _ h.2.2⟩
theorem rr_bb {K : PySem.W.Frag} {H : Hp} {q : Addr} {bb : Bool} {Q : VK} (e : H q = some (.lst [.bl bb, .bl bb])) (k : Q (.str (PyData.shown (.list [.bool bb, .bool bb]))) H) : rRepr K [.ref q] H Q := by
  refine rr_data (.lst (sq_lst e) (.cons (.bl _) (.cons (.bl _) .nil))) ?_ ?_ ?_ k
  · cases bb <;> decide +kernel
  · cases bb <;> decide +kernel
  · cases bb <;> decide +kernel
/-- truths, as data -/
theorem dp_bools (K : PySem.W.Frag) (H : Hp) : ∀ bs : List Bool, DpAll K H (bs.map V.bl) (bs.map PyData.bool)
  | [] => .nil
  | b :: bs => .cons (.bl b) (dp_bools K H bs)
theorem bools_shaped (bs : List Bool) : SeqAt.shaped (.list (bs.map PyData.bool)) = true := by
  have h1 : ∀ bs : List Bool, PyData.canLayAll0 (bs.map PyData.bool) = true := fun bs => by
    induction bs with
    | nil => rfl
    | cons b r ih =>
      show (true && PyData.canLayAll0 (r.map PyData.bool)) = true
      rw [ih]
      rfl
  have h2 : ∀ bs : List Bool, PyData.depthAll (bs.map PyData.bool) = 0 := fun bs => by
    induction bs with
    | nil => rfl
    | cons b r ih =>
      show max 0 (PyData.depthAll (r.map PyData.bool)) = 0
      rw [ih]
      rfl
  show (PyData.canLayAll0 (bs.map PyData.bool) && decide (PyData.depthAll (bs.map PyData.bool) + 1 ≤ 64)) = true
  rw [h1, h2]
  rfl
theorem bools_eqv : ∀ bs : List Bool, PyData.eqvAll (bs.map PyData.bool) (bs.map PyData.bool) = true
  | [] => rfl
  | b :: bs => by
    show ((b == b) && PyData.eqvAll (bs.map PyData.bool) (bs.map PyData.bool)) = true
    rw [bools_eqv bs]
    cases b <;> rfl
/-- repr([since, till]) -/
theorem rr_since {K : PySem.W.Frag} {H : Hp} {q : Addr} {s : Nat} {o : Option Nat} {Q : VK} (hs : s < 10 ^ 20) (ho : optLt o (10 ^ 20)) (e : H q = some (.lst [.int (s : Nat), optV o])) (k : Q (.str (PyData.shown (.list [.int (s : Nat), optD o]))) H) : rRepr K [.ref q] H Q := by
  have i1 := okI_nat hs (by decide)
  refine rr_data (.lst (sq_lst e) (.cons (.int _) (.cons (dp_opt o) .nil))) ?_ ?_ ?_ k
  · show (okI ((s : Nat) : Int) && (okD (optD o) && true)) = true
    rw [i1]
    cases o with
    | none => rfl
    | some n =>
      show (true && (okI ((n : Nat) : Int) && true)) = true
      rw [okI_nat (ho n rfl) (by decide)]
      rfl
  · cases o <;> exact Nat.le_of_ble_eq_true rfl
  · cases o <;> exact Nat.le_of_ble_eq_true rfl
/-- repr of a list of two tuples of days -/
theorem rr_days {K : PySem.W.Frag} {H : Hp} {q a b : Addr} {xs ys : List Nat} {Q : VK} (hx : ∀ n ∈ xs, n < 10 ^ 21) (hy : ∀ n ∈ ys, n < 10 ^ 21) (lx : xs.length ≤ 1000) (ly : ys.length ≤ 1000) (ha : H a = some (.tup (natV xs))) (hb : H b = some (.tup (natV ys))) (e : H q = some (.lst [.ref a, .ref b]))
    (k : Q (.str (PyData.shown (.list [.tuple (natD xs), .tuple (natD ys)]))) H) : rRepr K [.ref q] H Q := by
  refine rr_data (.lst (sq_lst e) (.cons (.tup (sq_tup ha) (dp_nat K H xs)) (.cons (.tup (sq_tup hb) (dp_nat K H ys)) .nil))) ?_ ?_ ?_ k
  · show (okL (natD xs) && (okL (natD ys) && true)) = true
    rw [natD_ok (by decide) xs hx, natD_ok (by decide) ys hy]
    rfl
  · show (szL (natD xs) + 3) + 2 + ((szL (natD ys) + 3) + 2 + 0) + 3 ≤ 16000000
    rw [natD_sz, natD_sz]
    omega
  · show max (PyData.depthAll (natD xs) + 1) (max (PyData.depthAll (natD ys) + 1) 0) + 1 ≤ 60
    rw [natD_dep, natD_dep]
    decide
def sp__law_some (K : PySem.W.Frag) : Sp := fun vs H Q _ => ∃ (p : Addr), vs = [.ref p] ∧ Pot H p ∧ ∀ (t g m : Addr) (D : DaysD) H', SomeAt H' t g m D → D.ok → D.lt → H t = none → H g = none → H m = none → t ≠ p → g ≠ p → m ≠ p → PotOn H H' p → Q (.ref t) H'
theorem fb__law_some {P : Program} {w : World} {K : PySem.W.Frag} {mg : Str → Option Value} {base : Heap} (T : Env K mg) : ∃ fd, FunD K "_law_some" "_law_some" (defArgs s__law_some) (defBody s__law_some) (defScope s__law_some) [] [] (He.ga K "_law_some") fd ∧ Fb P w K mg base 5 (He.ga K "_law_some") fd ["_law_pot_here"] (sp__law_some K) := by
  obtain ⟨fd, F⟩ := T.f__law_some
  refine ⟨fd, F, fb_of F sc__law_some (fun vs H Q E h => ?_) (fun cdv A outer s H vs Q E hr h => ?_)⟩
  · obtain ⟨p, rfl, _⟩ := h
    rfl
  · obtain ⟨p, rfl, hp, q⟩ := h
    refine ⟨_, (pss_cons (ps_set (i := 1) sc__law_some.nd rfl (Or.inl rfl) (c_call (ok__law_take T) (hr.mono (by decide)) T.g__law_take T.k__law_take takes0 (pa_cons (pv 0) (pa_cons pe_int pa_nil))))
      (pss_cons (ps_set (i := 2) sc__law_some.nd rfl (Or.inl rfl) (c_call (ok__law_bits T) (hr.mono (by decide)) T.g__law_bits T.k__law_bits takes0 (pa_cons (pv 0) pa_nil)))
      (pss_cons (ps_set (i := 3) sc__law_some.nd rfl (Or.inl rfl) pe_int)
      (Evl.pss_cut (ps_if (pt_cmpR op_eq (pe_op op_mod (pv 1) pe_int) pe_int (nomark _))
      (pss_one (ps_set (i := 3) sc__law_some.nd rfl (Or.inl rfl) (c_call (ok__law_take T) (hr.mono (by decide)) T.g__law_take T.k__law_take takes0 (pa_cons (pv 0) (pa_cons pe_int pa_nil)))))
      pss_nil)
      (Evl.pss_cut (ps_if (pt_cmpR op_eq (pe_op op_mod (pv 1) pe_int) pe_int (nomark _))
      (pss_one (ps_set (i := 3) sc__law_some.nd rfl (Or.inl rfl) (c_call (ok__law_great T) (hr.mono (by decide)) T.g__law_great T.k__law_great takes0 (pa_cons (pv 0) (pa_cons (pe_op op_pow pe_int pe_int) pa_nil)))))
      pss_nil)
      (pss_cons (ps_set (i := 4) sc__law_some.nd rfl (Or.inl rfl) pe_non)
      (Evl.pss_cut (ps_if (pt_cmpR op_eq (pe_op op_fdiv (pv 1) pe_int) pe_int (nomark _))
      (pss_one (ps_set (i := 4) sc__law_some.nd rfl (Or.inl rfl) (pe_op op_add (pv 3) (c_call (ok__law_take T) (hr.mono (by decide)) T.g__law_take T.k__law_take takes0 (pa_cons (pv 0) (pa_cons pe_int pa_nil))))))
      pss_nil)
      (Evl.pss_cut (ps_if (pt_cmpR op_eq (pe_op op_fdiv (pv 1) pe_int) pe_int (nomark _))
      (pss_one (ps_set (i := 4) sc__law_some.nd rfl (Or.inl rfl) (pe_op op_add (pv 3) (c_call (ok__law_great T) (hr.mono (by decide)) T.g__law_great T.k__law_great takes0 (pa_cons (pv 0) (pa_cons (pe_op op_pow pe_int pe_int) pa_nil))))))
      pss_nil)
      (pss_cons (ps_set (i := 5) sc__law_some.nd rfl (Or.inl rfl) (c_call (ok__law_few T) (hr.mono (by decide)) T.g__law_few T.k__law_few takes0 (pa_cons (pv 0) (pa_cons (pv 3) (pa_cons (pv 4) (pa_cons (pe_lst pa_nil) pa_nil))))))
      (pss_one (ps_ret (pe_tup (pa_cons (pv 2) (pa_cons (pv 3) (pa_cons (pv 4) (pa_cons (pv 5) (pa_cons (c_call (ok__law_few T) (hr.mono (by decide)) T.g__law_few T.k__law_few takes0 (pa_cons (pv 0) (pa_cons (pv 3) (pa_cons (pv 4) (pa_cons (pv 5) pa_nil))))) pa_nil))))))))))))))))), ?_⟩
    refine ⟨_, rfl, p, 9, rfl, hp, by decide, by decide, fun way H1 w0 w1 P1 => ?_⟩
    refine ⟨_, rfl, p, rfl, P1.1, fun l H2 hs P2 => ?_⟩
    have P12 := P1.trans P2
    refine ⟨fun σ' H' => PotOn H H' p ∧ ∃ lo : Nat, σ' = [some (.ref p), some (.int way), some (.str (SX.S l)), some (.int lo), none, none] ∧ lo < 10 ^ 19, ?_, ?_⟩
    · refine ⟨_, rfl, _, _, rfl, rfl, by show (0 : Int) < 3; decide, rfl, _, rfl, ite2 (fun _ => ?_) (fun _ => ?_)⟩
      · refine ⟨_, rfl, p, 40, rfl, P12.1, by decide, by decide, fun d H3 d0 d1 P3 => ?_⟩
        obtain ⟨m, rfl⟩ := Int.eq_ofNat_of_zero_le d0
        exact ⟨P12.trans P3, m, rfl, Nat.lt_trans (show m < 40 by omega) (by decide +kernel)⟩
      · exact ⟨P12, 0, rfl, by decide +kernel⟩
    rintro σ' H3 ⟨P3, lo, rfl, hlo⟩
    refine ⟨fun σ' H' => PotOn H H' p ∧ ∃ lo : Nat, σ' = [some (.ref p), some (.int way), some (.str (SX.S l)), some (.int lo), none, none] ∧ lo < 10 ^ 19, ?_, ?_⟩
    · refine ⟨_, rfl, _, _, rfl, rfl, by show (0 : Int) < 3; decide, rfl, _, rfl, ite2 (fun _ => ?_) (fun _ => ?_)⟩
      · refine ⟨_, rfl, _, _, rfl, rfl, ⟨by decide, by decide, by decide⟩, p, _, rfl, P3.1, by decide, fun d H4 d0 d1 P4 => ?_⟩
        obtain ⟨m, rfl⟩ := Int.eq_ofNat_of_zero_le d0
        have d2 : (m : Int) < 10 ^ 18 := d1
        exact ⟨P3.trans P4, m, rfl, by omega⟩
      · exact ⟨P3, lo, rfl, hlo⟩
    clear hlo P3
    rintro σ' H4 ⟨P4, lo, rfl, hlo⟩
    refine ⟨fun σ' H' => PotOn H H' p ∧ ∃ hi : Option Nat, σ' = [some (.ref p), some (.int way), some (.str (SX.S l)), some (.int lo), some (optV hi), none] ∧ ∀ u, hi = some u → lo ≤ u ∧ u < 10 ^ 20, ?_, ?_⟩
    · refine ⟨_, rfl, _, _, rfl, rfl, ⟨by decide, by decide⟩, rfl, _, rfl, ite2 (fun _ => ?_) (fun _ => ?_)⟩
      · refine ⟨_, rfl, _, rfl, p, 30, rfl, P4.1, by decide, by decide, fun d H5 d0 d1 P5 => ⟨_, _, rfl, rfl, ?_⟩⟩
        obtain ⟨m, rfl⟩ := Int.eq_ofNat_of_zero_le d0
        exact ⟨P4.trans P5, some (lo + m), rfl, fun u hu => by cases hu; omega⟩
      · exact ⟨P4, none, rfl, fun u hu => by cases hu⟩
    rintro σ' H5 ⟨P5, hi, rfl, hhi⟩
    refine ⟨fun σ' H' => PotOn H H' p ∧ ∃ hi : Option Nat, σ' = [some (.ref p), some (.int way), some (.str (SX.S l)), some (.int lo), some (optV hi), none] ∧ ∀ u, hi = some u → lo ≤ u ∧ u < 10 ^ 20, ?_, ?_⟩
    · refine ⟨_, rfl, _, _, rfl, rfl, ⟨by decide, by decide⟩, rfl, _, rfl, ite2 (fun _ => ?_) (fun _ => ?_)⟩
      · refine ⟨_, rfl, _, rfl, _, _, rfl, rfl, ⟨by decide, by decide, by decide⟩, p, _, rfl, P5.1, by decide, fun d H6 d0 d1 P6 => ⟨_, _, rfl, rfl, ?_⟩⟩
        obtain ⟨m, rfl⟩ := Int.eq_ofNat_of_zero_le d0
        have d2 : (m : Int) < 10 ^ 17 := d1
        exact ⟨P5.trans P6, some (lo + m), rfl, fun u hu => by cases hu; omega⟩
      · exact ⟨P5, hi, rfl, hhi⟩
    clear hhi P5
    rintro σ' H6 ⟨P6, hi, rfl, hhi⟩
    have hb : optLt hi (10 ^ 20) := fun u hu => (hhi u hu).2
    refine ⟨_, rfl, _, rfl, _, rfl, by show 0 ≤ sizeLine; decide, fun e ne => ?_⟩
    have ep := pot_ne P6 ne
    have P7 := pot_new (o := .lst []) P6 ne
    refine ⟨p, lo, hi, e, [], rfl, P7.1, by omega, hb, upd_same, ep, by decide, fun g os H8 ng hg gp lg ndg hbg P8 => ?_⟩
    have P68 := P7.trans P8
    refine ⟨_, rfl, _, rfl, _, rfl, _, rfl, _, rfl, _, rfl, _, rfl, _, rfl, p, lo, hi, g, os, rfl, P68.1, by omega, hb, hg, gp, by omega, fun m as H9 nm hm mp lm ndm hbm P9 => ?_⟩
    refine ⟨by show 5 ≤ sizeLine; decide, fun t nt => ?_⟩
    have P69 := P68.trans P9
    have g9 := P9.2 _ _ gp hg
    refine q t g m ⟨l, lo, hi, os, as⟩ _ ⟨upd_same, ex_new nt _ _ g9, ex_new nt _ _ hm⟩ ⟨hs, fun u hu => (hhi u hu).1, lg, lm, ndg, ndm, fun n hn => (hbm n hn).2⟩ ⟨by show lo < 10 ^ 20; omega, hb, fun n hn => (hbg n hn).1, fun n hn => (hbm n hn).1⟩ ?_ ?_ ?_ ?_ gp mp (pot_new P69 nt)
    · exact P69.fresh nt
    · exact P7.fresh ng
    · exact P68.fresh nm
    · exact pot_ne P69 nt

theorem ok__law_some {P : Program} {w : World} {K : PySem.W.Frag} {mg : Str → Option Value} {base : Heap} (T : Env K mg) : Fc P w K mg base 5 (He.ga K "_law_some") [] (sp__law_some K) := by
  obtain ⟨fd, D, F⟩ := fb__law_some T
  exact F.all (D.bindsN fun _ _ _ _ _ _ us hl => match us, hl with | [_], _ => rfl)
end
section
def sp__law_written (K : PySem.W.Frag) : Sp := fun vs H Q _ => ∃ (t g m : Addr) (D : DaysD), vs = [.ref t] ∧ SomeAt H t g m D ∧ D.ok ∧ D.fit 21 ∧ ∀ H', Ex H H' → Q (.str (SX.S (dtxt D))) H'
theorem fit_up {D : DaysD} {j k : Nat} (h : j ≤ k) (hF : D.fit j) : D.fit k := by
  obtain ⟨b1, b2, b3, b4⟩ := hF
  have e : (10 : Nat) ^ j ≤ 10 ^ k := Nat.pow_le_pow_right (by decide) h
  exact ⟨Nat.lt_of_lt_of_le b1 e, fun t ht => Nat.lt_of_lt_of_le (b2 t ht) e, fun n hn => Nat.lt_of_lt_of_le (b3 n hn) e, fun n hn => Nat.lt_of_lt_of_le (b4 n hn) e⟩
theorem shapedL_nat (ns : List Nat) : SeqAt.shaped (.list (natD ns)) = true := by
  show (PyData.canLayAll0 (natD ns) && decide (PyData.depthAll (natD ns) + 1 ≤ 64)) = true
  rw [natD_lay, natD_dep]
  rfl
theorem fb__law_written {P : Program} {w : World} {K : PySem.W.Frag} {mg : Str → Option Value} {base : Heap} (T : Env K mg) : ∃ fd, FunD K "_law_written" "_law_written" (defArgs s__law_written) (defBody s__law_written) (defScope s__law_written) [] [] (He.ga K "_law_written") fd ∧ Fb P w K mg base 1 (He.ga K "_law_written") fd ["_law_some_here"] (sp__law_written K) := by
  obtain ⟨fd, F⟩ := T.f__law_written
  refine ⟨fd, F, fb_of F sc__law_written (fun vs H Q E h => ?_) (fun cdv A outer s H vs Q E hr h => ?_)⟩
  · obtain ⟨t, g, m, D, rfl, _⟩ := h
    rfl
  · obtain ⟨t, g, m, D, rfl, hS, hD, hF, q⟩ := h
    refine ⟨_, (pss_cons (ps_set (i := 1) sc__law_written.nd rfl (Or.inl rfl) (pe_lst (pa_cons (pe_ix ix_tup (pv 0) pe_int (fun _ _ => rfl)) pa_nil)))
      (Evl.pss_cut (ps_if (pt_cmpR op_ne (pe_ix ix_tup (pv 0) pe_int (fun _ _ => rfl)) pe_int (nomark _))
      (pss_one (ps_set (i := 1) sc__law_written.nd rfl (Or.inl rfl) (pe_op op_cat (pv 1) (pe_lst (pa_cons pe_str (pa_cons (pe_callTy call_str_int (by rfl) T.n_str (by decide +kernel) (pa_cons (pe_ix ix_tup (pv 0) pe_int (fun _ _ => rfl)) pa_nil)) pa_nil))))))
      pss_nil)
      (Evl.pss_cut (ps_if (pt_cmpR op_notN (pe_ix ix_tup (pv 0) pe_int (fun _ _ => rfl)) pe_non (nomark _))
      (pss_one (ps_set (i := 1) sc__law_written.nd rfl (Or.inl rfl) (pe_op op_cat (pv 1) (pe_lst (pa_cons pe_str (pa_cons (pe_callTy call_str_int (by rfl) T.n_str (by decide +kernel) (pa_cons (pe_ix ix_tup (pv 0) pe_int (fun _ _ => rfl)) pa_nil)) pa_nil))))))
      pss_nil)
      (pss_cons (ps_for (passes_of rfl) rfl (pi_tup (pe_tup (pa_cons (pe_tup (pa_cons pe_str (pa_cons (pe_ix ix_tup (pv 0) pe_int (fun _ _ => rfl)) pa_nil))) (pa_cons (pe_tup (pa_cons pe_str (pa_cons (pe_ix ix_tup (pv 0) pe_int (fun _ _ => rfl)) pa_nil))) pa_nil)))) (pg_tup (by rfl) (pgs_cons (pg_name (i := 2) sc__law_written.nd rfl (Or.inl rfl)) (pgs_cons (pg_name (i := 3) sc__law_written.nd rfl (Or.inl rfl)) pgs_nil)))
      (pss_one (ps_if (pt_cmpR (op_neD hr.rm.units) (pv 3) (pe_lst pa_nil) (nomark _))
      (pss_one (ps_set (i := 1) sc__law_written.nd rfl (Or.inl rfl) (pe_op op_cat (pe_op op_cat (pv 1) (pe_lst (pa_cons (pv 2) pa_nil))) (pe_lc (own := [("_law_spot", 4)]) (by rfl) sc__law_written.nd (pi_list (pe_callB (cr_sortedA K) (by rfl) T.n_sorted (by decide +kernel) (pa_cons (pv 3) pa_nil))) (blkOk_by (own := [("_law_spot", 4)]) (N := ["_law_some_here", "_law_words", "_law_word", "_law_spots", "_law_spot"]) (sc := defScope s__law_written) (by decide +kernel)) (fun _ _ _ _ _ => (pg_name (i := 4) sc__law_written.nd rfl (Or.inl rfl))) (fun _ _ _ _ _ => pts_nil) (fun _ _ _ _ _ => (pe_callTy call_str_int (by rfl) T.n_str (by decide +kernel) (pa_cons (pv 4) pa_nil)))))))
      pss_nil)))
      (pss_one (ps_ret (pe_join pe_str (pv 1)))))))), ?_⟩
    obtain ⟨hs, ht, lo, la, no, na, hdj⟩ := id hD
    have hF1 : D.fit 150 := fit_up (by decide) hF
    obtain ⟨f1, f2, f3, f4⟩ := id hF1
    have dw := (wlen (by decide) hD hF1).1
    have dn := (wlen (by decide) hD hF1).2
    have big : ∀ {n : Nat}, n < 10 ^ 150 → ((n : Nat) : Int).natAbs.log2 < 1920 := fun {n} h => log_of (Nat.lt_trans (show ((n : Nat) : Int).natAbs < 10 ^ 150 by rw [Int.natAbs_natCast]; exact h) (by decide +kernel))
    refine ⟨_, rfl, t, _, 0, _, rfl, rfl, sq_tup hS.1, rfl, by show 1 ≤ sizeLine; decide, fun w nw => ?_⟩
    have X0 := ex_new (o := .lst (sV [D.bits])) nw
    refine ⟨fun σ' H' => Ex H H' ∧ ∃ w, σ' = [some (.ref t), some (.ref w), none, none, none] ∧ H' w = some (.lst (sV ([D.bits] ++ wSince D))), ?_, ?_⟩
    · refine ⟨_, rfl, t, _, 1, _, rfl, rfl, sq_tup (X0 _ _ hS.1), rfl, rfl, _, rfl, ?_⟩
      unfold wSince
      by_cases c : 0 < D.since
      · rw [decide_eq_false (show ¬ V.int ((D.since : Nat) : Int) = V.int 0 from fun z => by injection z with z; omega), if_pos c]
        refine iteT ?_
        refine ⟨_, rfl, _, rfl, t, _, 1, _, rfl, rfl, sq_tup (X0 _ _ hS.1), rfl, _, rfl, big f1, by show 2 ≤ sizeLine; decide, fun l nl => ?_⟩
        refine ⟨w, l, sV [D.bits], sV [wFrom, TL.numL D.since], rfl, rfl, ex_new nl _ _ upd_same, ?_, by show 1 + 2 ≤ sizeLine; decide, fun w2 nw2 => ?_⟩
        · rw [upd_same, SX.num_S]
          rfl
        · exact ⟨(X0.trans (ex_new nl)).trans (ex_new nw2), w2, rfl, by rw [upd_same, sV_app]⟩
      · rw [decide_eq_true (show V.int ((D.since : Nat) : Int) = V.int 0 by rw [show D.since = 0 by omega]; rfl), if_neg c]
        exact ⟨X0, w, rfl, upd_same⟩
    rintro σ' H1 ⟨X1, w1, rfl, hw1⟩
    refine ⟨fun σ' H' => Ex H H' ∧ ∃ w, σ' = [some (.ref t), some (.ref w), none, none, none] ∧ H' w = some (.lst (sV ([D.bits] ++ wSince D ++ wTill D))), ?_, ?_⟩
    · refine ⟨_, rfl, t, _, 2, _, rfl, rfl, sq_tup (X1 _ _ hS.1), rfl, rfl, _, rfl, ?_⟩
      unfold wTill
      cases hT : D.till with
      | none => exact ⟨X1, w1, rfl, by rw [List.append_nil]; exact hw1⟩
      | some u =>
        refine iteT ?_
        refine ⟨_, rfl, _, rfl, t, _, 2, .int (u : Nat), rfl, rfl, sq_tup (X1 _ _ hS.1), (by rw [hT]; rfl), _, rfl, big (f2 u hT), by show 2 ≤ sizeLine; decide, fun l nl => ?_⟩
        have l2 : (sV ([D.bits] ++ wSince D)).length ≤ 10 := by
          rw [sV_len]
          unfold wSince
          split <;> simp
        refine ⟨w1, l, _, sV [wTo, TL.numL u], rfl, rfl, ex_new nl _ _ hw1, ?_, sz_le (by rw [sV_len [wTo, TL.numL u]]; show _ + 2 ≤ _; omega), fun w2 nw2 => ?_⟩
        · rw [upd_same, SX.num_S]
          rfl
        · exact ⟨(X1.trans (ex_new nl)).trans (ex_new nw2), w2, rfl, by rw [upd_same, sV_app]⟩
    rintro σ' H2 ⟨X2, w2, rfl, hw2⟩
    refine ⟨_, rfl, t, _, 3, _, rfl, rfl, sq_tup (X2 _ _ hS.1), rfl, by show 2 ≤ sizeLine; decide, fun t1 n1 => ?_⟩
    have Y1 := ex_new (o := .tup [.str (Str.ofString "not"), .ref g]) n1
    refine ⟨_, rfl, t, _, 4, _, rfl, rfl, sq_tup (Y1 _ _ (X2 _ _ hS.1)), rfl, by show 2 ≤ sizeLine; decide, fun t2 n2 => ⟨by show 2 ≤ sizeLine; decide, fun tt nt => ?_⟩⟩
    have Y2 := ex_new (o := .tup [.str (Str.ofString "also"), .ref m]) n2
    have Y3 := ex_new (o := .tup [.ref t1, .ref t2]) nt
    have X3 := X2.trans ((Y1.trans Y2).trans Y3)
    have hw3 := ((Y1.trans Y2).trans Y3) _ _ hw2
    have g1 := (Y2.trans Y3) _ _ upd_same
    have g2 := Y3 _ _ upd_same
    have g3 : upd (upd (upd H2 t1 (.tup [.str (Str.ofString "not"), .ref g])) t2 (.tup [.str (Str.ofString "also"), .ref m])) tt (.tup [.ref t1, .ref t2]) tt = some (.tup [.ref t1, .ref t2]) := upd_same
    refine ⟨tt, rfl, ⟨_, sq_tup g3⟩, ?_⟩
    generalize upd (upd (upd H2 t1 (.tup [.str (Str.ofString "not"), .ref g])) t2 (.tup [.str (Str.ofString "also"), .ref m])) tt (.tup [.ref t1, .ref t2]) = H3 at X3 hw3 g1 g2 g3 ⊢
    have g1 : H3 t1 = some (.tup [.str (SX.S wNot), .ref g]) := g1
    have g2 : H3 t2 = some (.tup [.str (SX.S wAlso), .ref m]) := g2
    have bl : ([D.bits] ++ wSince D ++ wTill D).length ≤ 5 := by
      unfold wSince wTill
      cases D.till <;> split <;> simp
    refine for_on [(t1, wNot, g, D.out), (t2, wAlso, m, D.also)] (fun p : Addr × List Nat × Addr × List Nat => V.ref p.1) L2.walk_tup (fun i σ H' => Ex H3 H' ∧ ∃ w v2 v3 v4, H' w = some (.lst (sV ([D.bits] ++ wSince D ++ wTill D ++ (([(t1, wNot, g, D.out), (t2, wAlso, m, D.also)] : List (Addr × List Nat × Addr × List Nat)).take i).flatMap fun p => wList p.2.1 (srtN p.2.2.2)))) ∧ σ = [some (.ref t), some (.ref w), v2, v3, v4]) ⟨.refl _, w2, _, _, _, by rw [List.take_zero, List.flatMap_nil, List.append_nil]; exact hw3, rfl⟩ (fun i σ H' p => sq_tup (p.1 _ _ g3)) ?_ ?_
    · rintro i ⟨u, wd, pp, ns⟩ σ H4 hx ⟨X4, w4, v2, v3, v4, hw4, rfl⟩
      have hm : H3 u = some (.tup [.str (SX.S wd), .ref pp]) ∧ H3 pp = some (.lst (natV ns)) ∧ ns.length ≤ 8 ∧ ∀ n ∈ ns, n < 10 ^ 150 := by
        have hm := List.mem_of_getElem? hx
        simp only [List.mem_cons, List.not_mem_nil, or_false, Prod.mk.injEq] at hm
        rcases hm with ⟨rfl, rfl, rfl, rfl⟩ | ⟨rfl, rfl, rfl, rfl⟩
        · exact ⟨g1, X3 _ _ hS.2.1, by omega, f3⟩
        · exact ⟨g2, X3 _ _ hS.2.2, by omega, f4⟩
      obtain ⟨hu, hpp, ln, bn⟩ := hm
      have sn := srtN_len ns
      have tk := take_snoc hx
      have hu4 := X4 _ _ hu
      have hp4 := X4 _ _ hpp
      refine ⟨u, _, rfl, sq_tup hu4, rfl, _, _, rfl, _, _, rfl, rfl, ?_⟩
      refine ⟨_, rfl, by show 0 ≤ sizeLine; decide, fun e ne => ?_⟩
      have Z1 := ex_new (o := .lst []) ne
      refine ⟨.list (natD ns), .list [], .lst (sq_lst (Z1 _ _ hp4)) (dp_nat K _ ns), .lst (sq_lst upd_same) .nil, shapedL_nat ns, rfl, _, rfl, ?_⟩
      have lb : ([D.bits] ++ wSince D ++ wTill D ++ (([(t1, wNot, g, D.out), (t2, wAlso, m, D.also)] : List (Addr × List Nat × Addr × List Nat)).take i).flatMap fun p => wList p.2.1 (srtN p.2.2.2)).length ≤ 50 := by
        have s1 := srtN_len D.out
        have s2 := srtN_len D.also
        have wl : ∀ (w : List Nat) (ns : List Nat), (wList w ns).length ≤ ns.length + 1 := fun w ns => by
          unfold wList
          split <;> simp
        have w1 := wl wNot (srtN D.out)
        have w2 := wl wAlso (srtN D.also)
        rw [List.length_append]
        have hi : i = 0 ∨ i = 1 ∨ 2 ≤ i := by omega
        rcases hi with rfl | rfl | hi
        · rw [List.take_zero, List.flatMap_nil]
          show _ + 0 ≤ 50
          omega
        · simp only [List.take_succ_cons, List.take_zero, List.flatMap_cons, List.flatMap_nil, List.append_nil]
          omega
        · rw [List.take_of_length_le (by show 2 ≤ i; exact hi)]
          have bl2 := bl
          simp only [List.length_append] at bl2
          simp only [List.flatMap_cons, List.flatMap_nil, List.append_nil, List.length_append]
          omega
      rw [tk, List.flatMap_append, ← List.append_assoc]
      generalize [D.bits] ++ wSince D ++ wTill D ++ (([(t1, wNot, g, D.out), (t2, wAlso, m, D.also)] : List (Addr × List Nat × Addr × List Nat)).take i).flatMap (fun p => wList p.2.1 (srtN p.2.2.2)) = B at hw4 lb ⊢
      rw [show ([(u, wd, pp, ns)] : List (Addr × List Nat × Addr × List Nat)).flatMap (fun p => wList p.2.1 (srtN p.2.2.2)) = wList wd (srtN ns) by simp]
      cases hns : ns with
      | nil =>
        refine ⟨X4.trans Z1, w4, _, _, _, ?_, rfl⟩
        have e0 : srtN ([] : List Nat) = [] := List.eq_nil_iff_forall_not_mem.mpr fun x hx => by
          have := (srtN_mem x []).mp hx
          cases this
        rw [e0]
        show upd H4 e _ w4 = some (.lst (sV (B ++ [])))
        rw [List.append_nil]
        exact Z1 _ _ hw4
      | cons n0 nr =>
        refine iteT ?_
        rw [← hns]
        have nne : srtN ns ≠ [] := fun z => by
          have : n0 ∈ srtN ns := (srtN_mem n0 ns).mpr (by rw [hns]; exact List.mem_cons_self)
          rw [z] at this
          cases this
        refine ⟨_, rfl, _, rfl, by show 1 ≤ sizeLine; decide, fun l1 nl1 => ?_⟩
        have Z2 := Z1.trans (ex_new (o := .lst (sV [wd])) nl1)
        refine ⟨w4, l1, _, sV [wd], rfl, rfl, Z2 _ _ hw4, upd_same, sz_le (by rw [sV_len, sV_len]; show _ + 1 ≤ _; omega), fun l2 nl2 => ?_⟩
        rw [sV_app]
        have Z3 := Z2.trans (ex_new (o := .lst (sV (B ++ [wd]))) nl2)
        refine ⟨_, rfl, pp, ns.map (fun n : Nat => (n : Int)), rfl, .inl (by rw [← nat_int]; exact sq_lst (Z3 _ _ hp4)), fun l3 nl3 => ?_⟩
        rw [natV_srt]
        have Z4 := Z3.trans (ex_new (o := .lst (natV (srtN ns))) nl3)
        have hl2 := ex_new (o := .lst (natV (srtN ns))) nl3 _ _ (upd_same (H := upd (upd H4 e (.lst [])) l1 (.lst (sV [wd]))) (a := l2) (o := .lst (sV (B ++ [wd]))))
        refine ⟨l3, rfl, ⟨_, sq_lst upd_same⟩, fun A nA => lc_on (srtN ns) (fun n : Nat => V.int n) L2.walk_list (fun n => some (.str (SX.S (TL.numL n)))) (fun H' => Ex _ H') (fun H' z e => ex_mut e nA) (.refl _) (by omega) (fun H' e => sq_lst (e _ _ upd_same)) (fun j n H5 acc N hn X5 hA la k => ?_) fun H5 X5 d5 => ?_⟩
        · refine ⟨rfl, _, rfl, _, rfl, big (bn n ((srtN_mem n _).mp (List.mem_of_getElem? hn))), acc, hA, la, ?_⟩
          rw [SX.num_S]
          exact k H5 X5 hA
        · have e5 : (srtN ns).filterMap (fun n => some (V.str (SX.S (TL.numL n)))) = sV ((srtN ns).map TL.numL) := by
            unfold sV
            rw [List.filterMap_eq_map', List.map_map]
            rfl
          rw [e5] at d5
          have Z5 := Z4.trans X5
          refine ⟨l2, A, _, _, rfl, rfl, X5 _ _ hl2, d5, sz_le (by rw [sV_len, sV_len, List.length_map, List.length_append]; show _ + 1 + _ ≤ _; omega), fun l4 nl4 => ?_⟩
          rw [sV_app]
          refine ⟨X4.trans (Z5.trans (ex_new nl4)), l4, _, _, _, ?_, rfl⟩
          rw [upd_same]
          unfold wList
          rw [if_neg nne, List.append_assoc]
          rfl
    · rintro σ H4 ⟨X4, w4, v2, v3, v4, hw4, rfl⟩
      have ed : [D.bits] ++ wSince D ++ wTill D ++ (([(t1, wNot, g, D.out), (t2, wAlso, m, D.also)] : List (Addr × List Nat × Addr × List Nat)).take ([(t1, wNot, g, D.out), (t2, wAlso, m, D.also)] : List (Addr × List Nat × Addr × List Nat)).length).flatMap (fun p => wList p.2.1 (srtN p.2.2.2)) = dwords D := by
        rw [List.take_length]
        unfold dwords
        simp
      rw [ed] at hw4
      refine ⟨⟨_, rfl⟩, _, rfl, _, _, (dwords D).map SX.S, rfl, rfl, .inl (sq_lst (by rw [hw4, sV_str])), ?_, ?_⟩
      · have := sum_len dw
        rw [List.length_map]
        have z : (Str.ofString " ").length = 1 := rfl
        rw [z]
        omega
      · rw [show Str.ofString " " = SX.S [32] from rfl, SX.join_S]
        exact q H4 (X3.trans X4)

theorem ok__law_written {P : Program} {w : World} {K : PySem.W.Frag} {mg : Str → Option Value} {base : Heap} (T : Env K mg) : Fc P w K mg base 1 (He.ga K "_law_written") [] (sp__law_written K) := by
  obtain ⟨fd, D, F⟩ := fb__law_written T
  exact F.all (D.bindsN fun _ _ _ _ _ _ us hl => match us, hl with | [_], _ => rfl)
end
section
def sp__law_signs (K : PySem.W.Frag) : Sp := fun vs H Q _ => vs = [] ∧ ∀ z : Str, z.length = 95 → Q (.str z) H
theorem fb__law_signs {P : Program} {w : World} {K : PySem.W.Frag} {mg : Str → Option Value} {base : Heap} (T : Env K mg) : ∃ fd, FunD K "_law_signs" "_law_signs" (defArgs s__law_signs) (defBody s__law_signs) (defScope s__law_signs) [] [] (He.ga K "_law_signs") fd ∧ Fb P w K mg base 1 (He.ga K "_law_signs") fd [] (sp__law_signs K) := by
  obtain ⟨fd, F⟩ := T.f__law_signs
  refine ⟨fd, F, fb_of F sc__law_signs (fun vs H Q E h => ?_) (fun cdv A outer s H vs Q E hr h => ?_)⟩
  · rw [h.1]
    rfl
  · obtain ⟨rfl, q⟩ := h
    refine ⟨_, (pss_cons (ps_set (i := 0) sc__law_signs.nd rfl (Or.inl rfl) pe_str)
      (pss_one (ps_ret (pe_op op_add_str (pe_op op_add_str (pe_op op_add_str (pe_op op_add_str pe_str (pe_upper (pv 0))) pe_str) (pv 0)) pe_str)))), ?_⟩
    refine ⟨_, rfl, ⟨_, rfl⟩, _, rfl, rfl, by decide, ?_⟩
    refine ⟨_, _, rfl, rfl, by decide +kernel, ?_⟩
    refine ⟨_, _, rfl, rfl, by decide +kernel, ?_⟩
    refine ⟨_, rfl, _, _, rfl, rfl, by decide +kernel, ?_⟩
    refine ⟨_, _, rfl, rfl, by decide +kernel, ?_⟩
    exact q _ (by decide +kernel)

theorem ok__law_signs {P : Program} {w : World} {K : PySem.W.Frag} {mg : Str → Option Value} {base : Heap} (T : Env K mg) : Fc P w K mg base 1 (He.ga K "_law_signs") [] (sp__law_signs K) := by
  obtain ⟨fd, D, F⟩ := fb__law_signs T
  exact F.all (D.bindsN fun _ _ _ _ _ _ us hl => match us, hl with | [], _ => rfl)
end
section
/-- no word of l is longer than k -/
def nb (l : List Nat) (k : Nat) : Prop := ∀ a b c : List Nat, l = a ++ (b ++ c) → 32 ∉ b → b.length ≤ k
theorem nb_len {l : List Nat} {k : Nat} (h : l.length ≤ k) : nb l k := fun a b c e _ => by
  have := congrArg List.length e
  simp only [List.length_append] at this
  omega
theorem nb_mono {l : List Nat} {j k : Nat} (h : nb l j) (hjk : j ≤ k) : nb l k := fun a b c e hb => Nat.le_trans (h a b c e hb) hjk
theorem nb_app {l m : List Nat} {j k : Nat} (h1 : nb l j) (h2 : nb m k) : nb (l ++ m) (j + k) := fun a b c e hb => by
  rcases List.append_eq_append_iff.mp e with ⟨x, rfl, hm⟩ | ⟨x, hl, he⟩
  · have := h2 x b c hm hb
    omega
  · rcases List.append_eq_append_iff.mp he with ⟨y, rfl, rfl⟩ | ⟨y, rfl, rfl⟩
    · have := h1 a b y hl hb
      omega
    · have g1 := h1 a x [] (by rw [List.append_nil]; exact hl) (fun z => hb (List.mem_append_left _ z))
      have g2 := h2 [] y c rfl (fun z => hb (List.mem_append_right _ z))
      rw [List.length_append]
      omega
theorem nb_take {l : List Nat} {k : Nat} (i : Nat) (h : nb l k) : nb (l.take i) k := fun a b c e hb => by
  refine h a b (c ++ l.drop i) ?_ hb
  have : l = l.take i ++ l.drop i := (List.take_append_drop i l).symm
  rw [e, List.append_assoc, List.append_assoc] at this
  exact this
theorem nb_drop {l : List Nat} {k : Nat} (i : Nat) (h : nb l k) : nb (l.drop i) k := fun a b c e hb => by
  refine h (l.take i ++ a) b c ?_ hb
  have : l = l.take i ++ l.drop i := (List.take_append_drop i l).symm
  rw [e] at this
  rw [List.append_assoc]
  exact this
theorem nb_sp {l m : List Nat} {k : Nat} (h1 : nb l k) (h2 : nb m k) : nb (l ++ 32 :: m) k := fun a b c e hb => by
  rcases List.append_eq_append_iff.mp e with ⟨x, rfl, hm⟩ | ⟨x, hl, he⟩
  · cases x with
    | nil =>
      cases b with
      | nil => exact Nat.zero_le _
      | cons y r =>
        have : y = 32 := by
          have := congrArg List.head? hm
          simp at this
          omega
        exact absurd (by rw [this]; exact List.mem_cons_self) hb
    | cons y r =>
      have : m = r ++ (b ++ c) := by
        have := congrArg List.tail hm
        simpa using this
      exact h2 r b c this hb
  · rcases List.append_eq_append_iff.mp he with ⟨y, rfl, hc⟩ | ⟨y, rfl, hm⟩
    · exact h1 a b y hl hb
    · cases y with
      | nil =>
        rw [List.append_nil] at hb ⊢
        exact h1 a x [] (by rw [List.append_nil]; exact hl) hb
      | cons z r =>
        have : z = 32 := by
          have := congrArg List.head? hm
          simp at this
          omega
        exact absurd (by rw [this]; exact List.mem_append_right _ List.mem_cons_self) hb
theorem nb_join {k : Nat} : ∀ {ws : List (List Nat)}, (∀ w ∈ ws, nb w k) → nb (TL.joinL [32] ws) k
  | [], _ => nb_len (Nat.zero_le _)
  | [w], h => h w List.mem_cons_self
  | w :: x :: r, h => by
    show nb (w ++ 32 :: TL.joinL [32] (x :: r)) k
    exact nb_sp (h w List.mem_cons_self) (nb_join fun y hy => h y (List.mem_cons_of_mem _ hy))
theorem spl_step (acc : List Nat) (c : Nat) (r : List Nat) : TL.spl [32] 0 acc (c :: r) = if c = 32 then acc :: TL.spl [32] 0 [] r else TL.spl [32] 0 (acc ++ [c]) r := by
  show (if TL.pre [32] (c :: r) = true then acc :: TL.spl [32] 0 [] r else TL.spl [32] 0 (acc ++ [c]) r) = _
  have e : TL.pre [32] (c :: r) = decide (c = 32) := by
    unfold TL.pre
    show ([c] == [32]) = _
    by_cases h : c = 32 <;> simp [h]
  rw [e]
  by_cases h : c = 32 <;> simp [h]
theorem spl_words : ∀ (l acc : List Nat), 32 ∉ acc → TL.joinL [32] (TL.spl [32] 0 acc l) = acc ++ l ∧ ∀ w ∈ TL.spl [32] 0 acc l, 32 ∉ w
  | [], acc, h => ⟨by show acc = acc ++ []; rw [List.append_nil], fun w hw => by rw [List.mem_singleton.mp (show w ∈ [acc] from hw)]; exact h⟩
  | c :: r, acc, h => by
    rw [spl_step]
    by_cases e : c = 32
    · rw [if_pos e]
      obtain ⟨h1, h2⟩ := spl_words r [] (by simp)
      refine ⟨?_, fun w hw => ?_⟩
      · have ne := Mo.spl_ne [32] 0 [] r
        cases hs : TL.spl [32] 0 [] r with
        | nil => exact absurd hs ne
        | cons x t =>
          rw [hs] at h1
          show acc ++ (32 :: TL.joinL [32] (x :: t)) = _
          rw [h1, e]
          rfl
      · rcases List.mem_cons.mp hw with rfl | hw
        · exact h
        · exact h2 w hw
    · rw [if_neg e]
      obtain ⟨h1, h2⟩ := spl_words r (acc ++ [c]) (fun z => by
        rcases List.mem_append.mp z with z | z
        · exact h z
        · exact e (List.mem_singleton.mp z).symm)
      refine ⟨?_, h2⟩
      rw [h1]
      simp
theorem join_spl (l : List Nat) : TL.joinL [32] (TL.spl [32] 0 [] l) = l := (spl_words l [] (by simp)).1
theorem word_no32 {l w : List Nat} (h : w ∈ TL.spl [32] 0 [] l) : 32 ∉ w := (spl_words l [] (by simp)).2 w h
theorem in_join {w : List Nat} : ∀ {ws : List (List Nat)}, w ∈ ws → ∃ a c, TL.joinL [32] ws = a ++ (w ++ c)
  | [x], h => by
    rw [List.mem_singleton.mp h]
    exact ⟨[], [], by show x = [] ++ (x ++ []); simp⟩
  | x :: y :: r, h => by
    rcases List.mem_cons.mp h with rfl | h
    · exact ⟨[], 32 :: TL.joinL [32] (y :: r), rfl⟩
    · obtain ⟨a, c, e⟩ := in_join h
      exact ⟨x ++ (32 :: a), c, by show x ++ (32 :: TL.joinL [32] (y :: r)) = _; rw [e]; simp⟩
theorem nb_word {l w : List Nat} {k : Nat} (h : nb l k) (hw : w ∈ TL.spl [32] 0 [] l) : w.length ≤ k := by
  obtain ⟨a, c, e⟩ := in_join hw
  rw [join_spl] at e
  exact h a w c e (word_no32 hw)
theorem len_join {k : Nat} : ∀ {ws : List (List Nat)}, (∀ w ∈ ws, w.length ≤ k) → (TL.joinL [32] ws).length ≤ ws.length * (k + 1)
  | [], _ => Nat.zero_le _
  | [w], h => by
    show w.length ≤ 1 * (k + 1)
    have := h w List.mem_cons_self
    omega
  | w :: x :: r, h => by
    show (w ++ 32 :: TL.joinL [32] (x :: r)).length ≤ ((x :: r).length + 1) * (k + 1)
    have h1 := h w List.mem_cons_self
    have h2 := len_join (ws := x :: r) fun y hy => h y (List.mem_cons_of_mem _ hy)
    rw [List.length_append, List.length_cons, Nat.add_mul]
    omega
theorem cnt_join : ∀ {ws : List (List Nat)}, (∀ w ∈ ws, 32 ∉ w) → (TL.joinL [32] ws).count 32 + 1 ≤ ws.length + 1 ∧ (ws ≠ [] → (TL.joinL [32] ws).count 32 + 1 = ws.length)
  | [], _ => ⟨Nat.le_refl _, fun z => absurd rfl z⟩
  | [w], h => by
    have : w.count 32 = 0 := List.count_eq_zero.mpr (h w List.mem_cons_self)
    refine ⟨?_, fun _ => ?_⟩
    · show w.count 32 + 1 ≤ 1 + 1
      omega
    · show w.count 32 + 1 = 1
      omega
  | w :: x :: r, h => by
    have h1 : w.count 32 = 0 := List.count_eq_zero.mpr (h w List.mem_cons_self)
    have h2 := (cnt_join (ws := x :: r) fun y hy => h y (List.mem_cons_of_mem _ hy)).2 (by simp)
    have e : (TL.joinL [32] (w :: x :: r)).count 32 = w.count 32 + ((TL.joinL [32] (x :: r)).count 32 + 1) := by
      show (w ++ 32 :: TL.joinL [32] (x :: r)).count 32 = _
      rw [List.count_append, List.count_cons_self]
    rw [List.length_cons]
    refine ⟨by omega, fun _ => by omega⟩
theorem spl_cnt (l : List Nat) : (TL.spl [32] 0 [] l).length = l.count 32 + 1 := by
  have := (cnt_join (ws := TL.spl [32] 0 [] l) fun w hw => word_no32 hw).2 (Mo.spl_ne _ _ _ _)
  rw [join_spl] at this
  exact this.symm
theorem nb_length {l : List Nat} {k : Nat} (h : nb l k) : l.length ≤ (l.count 32 + 1) * (k + 1) := by
  have := len_join (ws := TL.spl [32] 0 [] l) (k := k) fun w hw => nb_word h hw
  rw [join_spl, spl_cnt] at this
  exact this
theorem cnt_mix (l x : List Nat) (i j : Nat) (h : i ≤ j) : (l.take i ++ x ++ l.drop j).count 32 ≤ l.count 32 + x.length := by
  rw [List.count_append, List.count_append]
  have h1 : l.count 32 = (l.take i).count 32 + (l.drop i).count 32 := by
    rw [← List.count_append, List.take_append_drop]
  have h2 : (l.drop j).count 32 ≤ (l.drop i).count 32 := by
    have : l.drop j = (l.drop i).drop (j - i) := by rw [List.drop_drop]; congr 1; omega
    rw [this]
    exact (List.drop_sublist _ _).count_le _
  have h3 := List.count_le_length (a := 32) (l := x)
  omega

end
section
def sp__law_signs_spoilt (K : PySem.W.Frag) : Sp := fun vs H Q _ => ∃ (p : Addr) (way : Int) (l : List Nat) (k : Nat), vs = [.ref p, .int way, .str (SX.S l)] ∧ Pot H p ∧ l.length ≤ 2000 ∧ nb l k ∧ ∀ (z : List Nat) H', z.count 32 ≤ l.count 32 + 2 → nb z (2 * k + 2) → PotOn H H' p → Q (.str (SX.S z)) H'
theorem str_at (z : Str) {i : Int} (h0 : 0 ≤ i) (h1 : i < (TL.tl z).length) : ∃ c, atI z.cps.toList i = some c := by
  obtain ⟨n, rfl⟩ := Int.eq_ofNat_of_zero_le h0
  have hn : n < (TL.tl z).length := Int.ofNat_lt.mp h1
  exact ⟨(TL.tl z)[n], atI_nat (List.getElem?_eq_getElem hn)⟩
theorem fb__law_signs_spoilt {P : Program} {w : World} {K : PySem.W.Frag} {mg : Str → Option Value} {base : Heap} (T : Env K mg) : ∃ fd, FunD K "_law_signs_spoilt" "_law_signs_spoilt" (defArgs s__law_signs_spoilt) (defBody s__law_signs_spoilt) (defScope s__law_signs_spoilt) [] [] (He.ga K "_law_signs_spoilt") fd ∧ Fb P w K mg base 2 (He.ga K "_law_signs_spoilt") fd ["_law_pot_here", "_law_way", "_law_due"] (sp__law_signs_spoilt K) := by
  obtain ⟨fd, F⟩ := T.f__law_signs_spoilt
  refine ⟨fd, F, fb_of F sc__law_signs_spoilt (fun vs H Q E h => ?_) (fun cdv A outer s H vs Q E hr h => ?_)⟩
  · obtain ⟨p, way, l, k, rfl, _⟩ := h
    rfl
  · obtain ⟨p, way, l, kk, rfl, hp, hx, hnb, q⟩ := h
    refine ⟨_, (pss_cons (ps_set (i := 3) sc__law_signs_spoilt.nd rfl (Or.inl rfl) (c_call0 (ok__law_signs T) (hr.mono (by decide)) T.g__law_signs T.k__law_signs takes0))
      (pss_cons (ps_set (i := 4) sc__law_signs_spoilt.nd rfl (Or.inl rfl) (pe_ix ix_str (pv 3) (c_call (ok__law_take T) (hr.mono (by decide)) T.g__law_take T.k__law_take takes0 (pa_cons (pv 0) (pa_cons (pe_callB call_len (by rfl) T.n_len (by decide +kernel) (pa_cons (pv 3) pa_nil)) pa_nil))) (fun _ _ => rfl)))
      (Evl.pss_cut (ps_if (pt_cmpR op_eq (c_call (ok__law_take T) (hr.mono (by decide)) T.g__law_take T.k__law_take takes0 (pa_cons (pv 0) (pa_cons pe_int pa_nil))) pe_int (nomark _))
      (pss_one (ps_set (i := 4) sc__law_signs_spoilt.nd rfl (Or.inl rfl) (pe_ix ix_str pe_str (c_call (ok__law_take T) (hr.mono (by decide)) T.g__law_take T.k__law_take takes0 (pa_cons (pv 0) (pa_cons pe_int pa_nil))) (fun _ _ => rfl))))
      pss_nil)
      (pss_cons (ps_set (i := 5) sc__law_signs_spoilt.nd rfl (Or.inl rfl) (c_call (ok__law_take T) (hr.mono (by decide)) T.g__law_take T.k__law_take takes0 (pa_cons (pv 0) (pa_cons (pe_op op_add (pe_callB call_len (by rfl) T.n_len (by decide +kernel) (pa_cons (pv 2) pa_nil)) pe_int) pa_nil))))
      (pss_cons (ps_if (pt_cmpR op_eq (pv 1) pe_int (nomark _))
      (pss_one (ps_ret (pe_op op_add_str (pe_op op_add_str (pe_slice sl_str (pv 2) po_none (po_some (pv 5))) (pv 4)) (pe_slice sl_str (pv 2) (po_some (pv 5)) po_none))))
      pss_nil)
      (pss_cons (ps_if (pt_cmpR op_eq (pv 1) pe_int (nomark _))
      (pss_one (ps_ret (pe_op op_add_str (pe_op op_add_str (pe_slice sl_str (pv 2) po_none (po_some (pv 5))) (pv 4)) (pe_slice sl_str (pv 2) (po_some (pe_op op_add (pv 5) pe_int)) po_none))))
      pss_nil)
      (pss_cons (ps_if (pt_cmpR op_eq (pv 1) pe_int (nomark _))
      (pss_one (ps_ret (pe_op op_add_str (pe_slice sl_str (pv 2) po_none (po_some (pv 5))) (pe_slice sl_str (pv 2) (po_some (pe_op op_add (pv 5) pe_int)) po_none))))
      pss_nil)
      (pss_one (ps_ret (pe_op op_add_str (pe_op op_add_str (pe_slice sl_str (pv 2) po_none (po_some (pv 5))) (pe_slice sl_str (pv 2) (po_some (pv 5)) (po_some (pe_op op_add (pv 5) pe_int)))) (pe_slice sl_str (pv 2) (po_some (pv 5)) po_none))))))))))), ?_⟩
    have hxs : (SX.S l).length ≤ sizeLine := Nat.le_of_lt (small_len (by rw [SX.S_len]; omega))
    refine ⟨rfl, fun sg hsg => ?_⟩
    refine ⟨_, rfl, _, rfl, _, rfl, _, 95, rfl, ⟨Nat.le_of_lt (small_len (by omega)), hsg.symm⟩, p, _, rfl, hp, by decide, by decide, fun d H2 d0 d1 P2 => ?_⟩
    obtain ⟨c, hc⟩ := str_at sg d0 (by rw [TL.len_tl] at hsg; omega)
    refine ⟨_, _, c, rfl, rfl, Nat.le_of_lt (small_len (by omega)), hc, ?_⟩
    refine ⟨fun σ' H' => PotOn H H' p ∧ ∃ (c : Nat), σ' = [some (.ref p), some (.int way), some (.str (SX.S l)), some (.str sg), some (.str ⟨#[c]⟩), none], ?_, ?_⟩
    · refine ⟨_, rfl, p, _, rfl, P2.1, by decide, by decide, fun d H3 e0 e1 P3 => ?_⟩
      refine ⟨rfl, _, rfl, ite2 (fun _ => ?_) (fun _ => ?_)⟩
      · refine ⟨_, rfl, p, _, rfl, P3.1, by decide, by decide, fun d H4 f0 f1 P4 => ?_⟩
        obtain ⟨c, hc⟩ := str_at (Str.ofString "01234567890 ") f0 (by show d < 12; exact f1)
        refine ⟨_, _, c, rfl, rfl, by decide, hc, ?_⟩
        exact ⟨(P2.trans P3).trans P4, c, rfl⟩
      · exact ⟨P2.trans P3, c, rfl⟩
    rintro σ' H3 ⟨P3, c, rfl⟩
    have ad : ∀ a b : List Nat, a.length + b.length ≤ 5000 → (SX.S a).length + (SX.S b).length ≤ sizeLine := fun a b h => by
      rw [SX.S_len, SX.S_len, sizeLine_eq]
      omega
    refine ⟨_, rfl, _, rfl, _, l.length, rfl, ⟨hxs, (SX.S_len l).symm⟩, _, _, rfl, rfl, p, _, rfl, P3.1, by omega, by omega, fun at_ H4 a0 a1 P4 => ?_⟩
    obtain ⟨k, rfl⟩ := Int.eq_ofNat_of_zero_le a0
    have PP := P3.trans P4
    have t1 : (l.take k).length ≤ l.length := by rw [List.length_take]; omega
    have t2 : (l.take k).length + (l.drop k).length = l.length := by rw [List.length_take, List.length_drop]; omega
    have t3 : (l.take k).length + (l.drop (k + 1)).length ≤ l.length := by rw [List.length_take, List.length_drop]; omega
    have k1 : (k : Int) + 1 = ((k + 1 : Nat) : Int) := by omega
    have k2 : (k : Int) + 2 = ((k + 2 : Nat) : Int) := by omega
    have m3 : ((l.drop k).take (k + 2 - k)).length ≤ 2 := by rw [List.length_take]; omega
    have nT := nb_take k hnb
    have nD := nb_drop k hnb
    have nD1 := nb_drop (k + 1) hnb
    have mix : ∀ x y : List Nat, x.length ≤ 2 → nb y kk → nb (l.take k ++ x ++ y) (2 * kk + 2) := fun x y hx hy => nb_mono (nb_app (nb_app nT (nb_len hx)) hy) (by omega)
    refine ⟨_, rfl, rfl, _, rfl, ite2 (fun _ => ?_) (fun _ => ?_)⟩
    · refine ⟨_, rfl, _, rfl, _, rfl, _, rfl, hxs, ?_⟩
      rw [Mo.cut_to]
      refine ⟨_, rfl, _, _, rfl, rfl, ad _ [c] (by simp; omega), ?_⟩
      rw [SX.S_cat]
      refine ⟨_, rfl, _, rfl, _, rfl, _, rfl, hxs, ?_⟩
      rw [Mo.cut_from]
      refine ⟨_, _, rfl, rfl, ad _ _ (by simp; omega), ?_⟩
      rw [SX.S_cat]
      exact q _ _ (Nat.le_trans (cnt_mix l [c] k k (Nat.le_refl _)) (by simp)) (mix [c] _ (by simp) nD) PP
    refine ⟨_, rfl, rfl, _, rfl, ite2 (fun _ => ?_) (fun _ => ?_)⟩
    · refine ⟨_, rfl, _, rfl, _, rfl, _, rfl, hxs, ?_⟩
      rw [Mo.cut_to]
      refine ⟨_, rfl, _, _, rfl, rfl, ad _ [c] (by simp; omega), ?_⟩
      rw [SX.S_cat]
      refine ⟨_, rfl, _, rfl, _, _, rfl, rfl, _, rfl, _, rfl, hxs, ?_⟩
      rw [k1, Mo.cut_from]
      refine ⟨_, _, rfl, rfl, ad _ _ (by simp; omega), ?_⟩
      rw [SX.S_cat]
      exact q _ _ (Nat.le_trans (cnt_mix l [c] k (k + 1) (by omega)) (by simp)) (mix [c] _ (by simp) nD1) PP
    refine ⟨_, rfl, rfl, _, rfl, ite2 (fun _ => ?_) (fun _ => ?_)⟩
    · refine ⟨_, rfl, _, rfl, _, rfl, _, rfl, hxs, ?_⟩
      rw [Mo.cut_to]
      refine ⟨_, rfl, _, rfl, _, _, rfl, rfl, _, rfl, _, rfl, hxs, ?_⟩
      rw [k1, Mo.cut_from]
      refine ⟨_, _, rfl, rfl, ad _ _ (by omega), ?_⟩
      rw [SX.S_cat]
      exact q _ _ (by have := cnt_mix l [] k (k + 1) (by omega); rw [List.append_nil] at this; exact Nat.le_trans this (by simp)) (nb_mono (nb_app nT nD1) (by omega)) PP
    · refine ⟨_, rfl, _, rfl, _, rfl, _, rfl, hxs, ?_⟩
      rw [Mo.cut_to]
      refine ⟨_, rfl, _, rfl, _, rfl, _, rfl, _, _, rfl, rfl, _, rfl, _, rfl, hxs, ?_⟩
      rw [k2, Mo.cut_mid]
      refine ⟨_, _, rfl, rfl, ad _ _ (by omega), ?_⟩
      rw [SX.S_cat]
      refine ⟨_, rfl, _, rfl, _, rfl, _, rfl, hxs, ?_⟩
      rw [Mo.cut_from]
      refine ⟨_, _, rfl, rfl, ad _ _ (by rw [List.length_append]; omega), ?_⟩
      rw [SX.S_cat]
      exact q _ _ (Nat.le_trans (cnt_mix l _ k k (Nat.le_refl _)) (by omega)) (mix _ _ m3 nD) PP

theorem ok__law_signs_spoilt {P : Program} {w : World} {K : PySem.W.Frag} {mg : Str → Option Value} {base : Heap} (T : Env K mg) : Fc P w K mg base 2 (He.ga K "_law_signs_spoilt") [] (sp__law_signs_spoilt K) := by
  obtain ⟨fd, D, F⟩ := fb__law_signs_spoilt T
  exact F.all (D.bindsN fun _ _ _ _ _ _ us hl => match us, hl with | [_, _, _], _ => rfl)
end
section
def sp__law_spoilt (K : PySem.W.Frag) : Sp := fun vs H Q _ => ∃ (p : Addr) (l : List Nat) (k : Nat), vs = [.ref p, .str (SX.S l)] ∧ Pot H p ∧ l.count 32 ≤ 30 ∧ nb l k ∧ k ≤ 50 ∧ ∀ (z : List Nat) H', z.count 32 ≤ l.count 32 + 2 → nb z (2 * k + 2) → PotOn H H' p → Q (.str (SX.S z)) H'
theorem sV_set (W : List (List Nat)) (i : Nat) (w : List Nat) : sV (W.set i w) = (sV W).set i (.str (SX.S w)) := by
  unfold sV
  rw [List.map_set]
theorem ixN_nat {n i : Nat} (h : i < n) : ixN n (i : Int) = some i := by
  unfold ixN
  rw [if_pos (by omega), if_pos (by omega)]
  simp
theorem seqIx_nat {n i : Nat} (h : i < n) : seqIndex? (i : Int) n = some i := by
  unfold seqIndex?
  simp
  omega
theorem map_erase {α β : Type} (f : α → β) : ∀ (l : List α) (i : Nat), (l.map f).eraseIdx i = (l.eraseIdx i).map f
  | [], _ => rfl
  | a :: l, 0 => rfl
  | a :: l, i + 1 => by
    show f a :: (l.map f).eraseIdx i = f a :: (l.eraseIdx i).map f
    rw [map_erase f l i]
theorem mem_erase {α : Type} {x : α} : ∀ {l : List α} {i : Nat}, x ∈ l.eraseIdx i → x ∈ l := fun {l i} h => (List.eraseIdx_sublist l i).subset h
theorem fb__law_spoilt {P : Program} {w : World} {K : PySem.W.Frag} {mg : Str → Option Value} {base : Heap} (T : Env K mg) : ∃ fd, FunD K "_law_spoilt" "_law_spoilt" (defArgs s__law_spoilt) (defBody s__law_spoilt) (defScope s__law_spoilt) [] [] (He.ga K "_law_spoilt") fd ∧ Fb P w K mg base 3 (He.ga K "_law_spoilt") fd ["_law_pot_here", "_law_due"] (sp__law_spoilt K) := by
  obtain ⟨fd, F⟩ := T.f__law_spoilt
  refine ⟨fd, F, fb_of F sc__law_spoilt (fun vs H Q E h => ?_) (fun cdv A outer s H vs Q E hr h => ?_)⟩
  · obtain ⟨p, l, k, rfl, _⟩ := h
    rfl
  · obtain ⟨p, l, k, rfl, hp, hc, hnb, hk, q⟩ := h
    refine ⟨_, (pss_cons (ps_set (i := 2) sc__law_spoilt.nd rfl (Or.inl rfl) (c_call (ok__law_take T) (hr.mono (by decide)) T.g__law_take T.k__law_take takes0 (pa_cons (pv 0) (pa_cons pe_int pa_nil))))
      (pss_cons (ps_if (pt_cmpR op_lt (pv 2) pe_int (nomark _))
      (pss_one (ps_ret (c_call (ok__law_signs_spoilt T) (hr.mono (by decide)) T.g__law_signs_spoilt T.k__law_signs_spoilt takes0 (pa_cons (pv 0) (pa_cons (pv 2) (pa_cons (pv 1) pa_nil))))))
      pss_nil)
      (pss_cons (ps_set (i := 3) sc__law_spoilt.nd rfl (Or.inl rfl) (pe_split (pv 1) pe_str))
      (pss_cons (ps_par (i := 4) (j := 5) (by rfl) sc__law_spoilt.nd rfl rfl (by decide) rfl rfl (pa_cons (c_call (ok__law_take T) (hr.mono (by decide)) T.g__law_take T.k__law_take takes0 (pa_cons (pv 0) (pa_cons (pe_callB call_len (by rfl) T.n_len (by decide +kernel) (pa_cons (pv 3) pa_nil)) pa_nil))) (pa_cons (c_call (ok__law_take T) (hr.mono (by decide)) T.g__law_take T.k__law_take takes0 (pa_cons (pv 0) (pa_cons (pe_callB call_len (by rfl) T.n_len (by decide +kernel) (pa_cons (pv 3) pa_nil)) pa_nil))) pa_nil)) (by rfl))
      (Evl.pss_cut (ps_if (pt_cmpR op_eq (pv 2) pe_int (nomark _))
      (pss_one (ps_asg (pe_tup (pa_cons (pe_ix ix_list (pv 3) (pv 5) (fun _ _ => rfl)) (pa_cons (pe_ix ix_list (pv 3) (pv 4) (fun _ _ => rfl)) pa_nil))) (pg_tup (by rfl) (pgs_cons (pg_sub (pv 3) (pv 4) set_list) (pgs_cons (pg_sub (pv 3) (pv 5) set_list) pgs_nil)))))
      pss_nil)
      (Evl.pss_cut (ps_if (pt_cmpR op_eq (pv 2) pe_int (nomark _))
      (pss_one (ps_expr (pe_bm PySem.F.plainAttrs_list PySem.F.slot_list_insert PySem.F.type_list_insert mt_insert (pv 3) (pa_cons (pv 5) (pa_cons (pe_ix ix_list (pv 3) (pv 4) (fun _ _ => rfl)) pa_nil)))))
      pss_nil)
      (Evl.pss_cut (ps_if (pt_cmpR op_eq (pv 2) pe_int (nomark _))
      (pss_one (ps_expr (pe_bm PySem.F.plainAttrs_list PySem.F.slot_list_pop PySem.F.type_list_pop mt_popAt (pv 3) (pa_cons (pv 4) pa_nil))))
      pss_nil)
      (pss_one (ps_ret (pe_join pe_str (pv 3))))))))))), ?_⟩
    have hx : l.length ≤ 2000 := Nat.le_trans (nb_length hnb) (Nat.le_trans (Nat.mul_le_mul (show l.count 32 + 1 ≤ 31 by omega) (show k + 1 ≤ 51 by omega)) (by decide))
    refine ⟨_, rfl, p, 7, rfl, hp, by decide, by decide, fun way H1 w0 w1 P1 => ?_⟩
    refine ⟨_, rfl, _, _, rfl, rfl, _, rfl, ite2 (fun _ => ?_) (fun c4 => ?_)⟩
    · exact ⟨_, rfl, _, rfl, _, rfl, p, way, l, k, rfl, P1.1, hx, hnb, fun z H2 lz nz P2 => q z H2 lz nz (P1.trans P2)⟩
    refine ⟨_, rfl, ⟨_, rfl⟩, SX.S l, SX.S [32], rfl, rfl, rfl, sz_le (by rw [SX.S_len]; omega), fun ws nws => ?_⟩
    rw [SX.split_S (by decide) (by decide), ← sV_str]
    have wp := pot_ne P1 nws
    have P2 := pot_new (o := .lst (sV (TL.spl [32] 0 [] l))) P1 nws
    have nw0 := P1.fresh nws
    have wl := spl_cnt l
    have w1 : ∀ w ∈ TL.spl [32] 0 [] l, nb w k ∧ 32 ∉ w := fun w hw => ⟨nb_len (nb_word hnb hw), word_no32 hw⟩
    have hws : upd H1 ws (.lst (sV (TL.spl [32] 0 [] l))) ws = some (.lst (sV (TL.spl [32] 0 [] l))) := upd_same
    generalize upd H1 ws (.lst (sV (TL.spl [32] 0 [] l))) = H2 at P2 hws ⊢
    generalize TL.spl [32] 0 [] l = W at wl w1 hws
    refine ⟨_, rfl, _, rfl, _, W.length, rfl, .inl ⟨_, sq_lst hws, (sV_len W).symm⟩, p, _, rfl, P2.1, by omega, by omega, fun x H3 x0 x1 P3 => ?_⟩
    have hw3 := P3.2 _ _ wp hws
    refine ⟨_, rfl, _, rfl, _, W.length, rfl, .inl ⟨_, sq_lst hw3, (sV_len W).symm⟩, p, _, rfl, P3.1, by omega, by omega, fun y H4 y0 y1 P4 => ?_⟩
    have hw4 := P4.2 _ _ wp hw3
    obtain ⟨i, rfl⟩ := Int.eq_ofNat_of_zero_le x0
    obtain ⟨j, rfl⟩ := Int.eq_ofNat_of_zero_le y0
    have hi : i < W.length := by omega
    have hj : j < W.length := by omega
    have P5 := (P2.trans P3).trans P4
    have gi : (sV W)[i]? = some (.str (SX.S W[i])) := by
      unfold sV
      rw [List.getElem?_map, List.getElem?_eq_getElem hi]
      rfl
    have gj : (sV W)[j]? = some (.str (SX.S W[j])) := by
      unfold sV
      rw [List.getElem?_map, List.getElem?_eq_getElem hj]
      rfl
    refine ⟨_, _, rfl, ?_⟩
    refine ⟨fun σ' H' => PotOn H H' p ∧ ∃ W' : List (List Nat), H' ws = some (.lst (sV W')) ∧ W'.length = W.length ∧ (∀ w ∈ W', w ∈ W) ∧ σ' = [some (.ref p), some (.str (SX.S l)), some (.int way), some (.ref ws), some (.int (i : Nat)), some (.int (j : Nat))], ?_, ?_⟩
    · refine ⟨_, rfl, rfl, _, rfl, ite2 (fun _ => ?_) (fun _ => ?_)⟩
      · refine ⟨_, rfl, _, rfl, ws, _, _, _, rfl, rfl, sq_lst hw4, atI_nat gj, _, rfl, _, rfl, ws, _, _, _, rfl, rfl, sq_lst hw4, atI_nat gi, by show 2 ≤ sizeLine; decide, fun t nt => ?_⟩
        have tw : ws ≠ t := ne_of_none hw4 nt
        have hw5 := ex_new (o := .tup [V.str (SX.S W[j]), V.str (SX.S W[i])]) nt _ _ hw4
        refine ⟨t, _, rfl, sq_tup upd_same, rfl, _, _, rfl, _, rfl, _, rfl, ws, _, _, i, rfl, rfl, hw5, ixN_nat (by rw [sV_len]; exact hi), _, _, rfl, _, rfl, _, rfl, ws, _, _, j, rfl, rfl, upd_same, ixN_nat (by rw [List.length_set, sV_len]; exact hj), rfl, ?_⟩
        refine ⟨pot_upd (pot_upd (pot_new P5 nt) nw0 wp) nw0 wp, (W.set i W[j]).set j W[i], ?_, by rw [List.length_set, List.length_set], fun w hw => ?_, rfl⟩
        · rw [upd_same, sV_set, sV_set]
        · rcases List.mem_or_eq_of_mem_set hw with hw | rfl
          · rcases List.mem_or_eq_of_mem_set hw with hw | rfl
            · exact hw
            · exact List.getElem_mem _
          · exact List.getElem_mem _
      · exact ⟨P5, W, hw4, rfl, fun w h => h, rfl⟩
    rintro σ' H5 ⟨P6, W1, hw6, l1, m1, rfl⟩
    refine ⟨fun σ' H' => PotOn H H' p ∧ ∃ W' : List (List Nat), H' ws = some (.lst (sV W')) ∧ W.length ≤ W'.length ∧ W'.length ≤ W.length + 1 ∧ (∀ w ∈ W', w ∈ W) ∧ σ' = [some (.ref p), some (.str (SX.S l)), some (.int way), some (.ref ws), some (.int (i : Nat)), some (.int (j : Nat))], ?_, ?_⟩
    · refine ⟨_, rfl, rfl, _, rfl, ite2 (fun _ => ?_) (fun _ => ?_)⟩
      · have hi1 : i < W1.length := by omega
        have gi1 : (sV W1)[i]? = some (.str (SX.S W1[i])) := by
          unfold sV
          rw [List.getElem?_map, List.getElem?_eq_getElem hi1]
          rfl
        refine ⟨_, rfl, .inl ⟨rfl, _, sq_lst hw6⟩, _, rfl, _, rfl, _, rfl, ws, _, _, _, rfl, rfl, sq_lst hw6, atI_nat gi1, ws, _, _, _, rfl, rfl, hw6, small_len (by rw [sV_len]; omega), by omega, by omega, ?_⟩
        refine ⟨pot_upd P6 nw0 wp, W1.take j ++ [W1[i]] ++ W1.drop j, ?_, ?_, ?_, fun w hw => ?_, rfl⟩
        · rw [upd_same, ← sV_app, ← sV_app]
          unfold sV
          rw [List.map_take, List.map_drop]
          rfl
        · simp only [List.length_append, List.length_take, List.length_drop, List.length_singleton]
          omega
        · simp only [List.length_append, List.length_take, List.length_drop, List.length_singleton]
          omega
        · rcases List.mem_append.mp hw with hw | hw
          · rcases List.mem_append.mp hw with hw | hw
            · exact m1 w (List.mem_of_mem_take hw)
            · rw [List.mem_singleton.mp hw]
              exact m1 _ (List.getElem_mem _)
          · exact m1 w (List.mem_of_mem_drop hw)
      · exact ⟨P6, W1, hw6, by omega, by omega, m1, rfl⟩
    clear hw6 l1 m1 P6
    clear W1
    rintro σ' H6 ⟨P7, W2, hw7, l2, l3, m2, rfl⟩
    refine ⟨fun σ' H' => PotOn H H' p ∧ ∃ W' : List (List Nat), H' ws = some (.lst (sV W')) ∧ W'.length ≤ W.length + 1 ∧ (∀ w ∈ W', w ∈ W) ∧ σ' = [some (.ref p), some (.str (SX.S l)), some (.int way), some (.ref ws), some (.int (i : Nat)), some (.int (j : Nat))], ?_, ?_⟩
    · refine ⟨_, rfl, rfl, _, rfl, ite2 (fun _ => ?_) (fun _ => ?_)⟩
      · have hi2 : i < W2.length := by omega
        have gi2 : (sV W2)[i]? = some (.str (SX.S W2[i])) := by
          unfold sV
          rw [List.getElem?_map, List.getElem?_eq_getElem hi2]
          rfl
        refine ⟨_, rfl, .inl ⟨rfl, _, sq_lst hw7⟩, _, rfl, ws, _, _, i, _, rfl, rfl, hw7, by omega, by omega, seqIx_nat (by rw [sV_len]; exact hi2), gi2, ?_⟩
        refine ⟨pot_upd P7 nw0 wp, W2.eraseIdx i, ?_, ?_, fun w hw => m2 w (mem_erase hw), rfl⟩
        · rw [upd_same]
          unfold sV
          exact congrArg (fun x => some (HO.lst x)) (map_erase _ W2 i)
        · have := List.length_eraseIdx_le W2 i
          omega
      · exact ⟨P7, W2, hw7, l3, m2, rfl⟩
    clear hw7 l2 l3 m2 P7
    clear W2
    rintro σ' H7 ⟨P8, W3, hw8, l4, m3, rfl⟩
    refine ⟨⟨_, rfl⟩, _, rfl, _, _, W3.map SX.S, rfl, rfl, .inl (sq_lst (by rw [hw8, sV_str])), ?_, ?_⟩
    · have := sum_len (k := k) (ws := W3) fun w hw => by have := (w1 w (m3 w hw)).1 [] w [] (by simp) (w1 w (m3 w hw)).2; exact this
      rw [List.length_map]
      have z : (Str.ofString " ").length = 1 := rfl
      rw [z]
      have : k * W3.length ≤ 50 * 33 := Nat.mul_le_mul hk (by omega)
      omega
    · rw [show Str.ofString " " = SX.S [32] from rfl, SX.join_S]
      have cj := (cnt_join (ws := W3) fun w hw => (w1 w (m3 w hw)).2).1
      exact q _ H7 (by omega) (nb_mono (nb_join fun w hw => (w1 w (m3 w hw)).1) (by omega)) P8

theorem ok__law_spoilt {P : Program} {w : World} {K : PySem.W.Frag} {mg : Str → Option Value} {base : Heap} (T : Env K mg) : Fc P w K mg base 3 (He.ga K "_law_spoilt") [] (sp__law_spoilt K) := by
  obtain ⟨fd, D, F⟩ := fb__law_spoilt T
  exact F.all (D.bindsN fun _ _ _ _ _ _ us hl => match us, hl with | [_, _], _ => rfl)
end
section
def strsB (B : Nat) : List V → Bool
  | [] => true
  | .str z :: r => decide (z.length ≤ B) && strsB B r
  | _ => false
theorem strsB_get {B : Nat} : ∀ {xs : List V} {n : Nat}, strsB B xs = true → n < xs.length → ∃ z : Str, xs[n]? = some (.str z) ∧ z.length ≤ B
  | [], _, _, h => by simp at h
  | x :: xs, n, hb, h => by
    cases x with
    | str z =>
      obtain ⟨h1, h2⟩ := He.ba (show (decide (z.length ≤ B) && strsB B xs) = true from hb)
      cases n with
      | zero => exact ⟨z, rfl, of_decide_eq_true h1⟩
      | succ k =>
        obtain ⟨w, e, l⟩ := strsB_get (n := k) h2 (by simpa using h)
        exact ⟨w, by simpa using e, l⟩
    | _ => cases hb
theorem at_all {B : Nat} {xs : List V} {d : Int} (d0 : 0 ≤ d) (d1 : d < (xs.length : Int)) (hb : strsB B xs = true) : ∃ z : Str, atI xs d = some (.str z) ∧ z.length ≤ B := by
  obtain ⟨n, rfl⟩ := Int.eq_ofNat_of_zero_le d0
  obtain ⟨z, e, l⟩ := strsB_get hb (Int.ofNat_lt.mp d1)
  exact ⟨z, atI_nat e, l⟩
theorem at_of {B n : Nat} {H : Hp} {a : Addr} {xs : List V} {d : Int} (_h : H a = some (.lst xs)) (d0 : 0 ≤ d) (d1 : d < (n : Int)) (hl : xs.length = n) (hb : strsB B xs = true) : ∃ z : Str, atI xs d = some (.str z) ∧ z.length ≤ B := at_all d0 (by rw [hl]; exact d1) hb

end
section
def sp__law_odd (K : PySem.W.Frag) : Sp := fun vs H Q _ => ∃ p : Addr, vs = [.ref p] ∧ Pot H p ∧ ∀ (z : List Nat) H', z.length ≤ 30 → PotOn H H' p → Q (.str (SX.S z)) H'
theorem fb__law_odd {P : Program} {w : World} {K : PySem.W.Frag} {mg : Str → Option Value} {base : Heap} (T : Env K mg) : ∃ fd, FunD K "_law_odd" "_law_odd" (defArgs s__law_odd) (defBody s__law_odd) (defScope s__law_odd) [] [] (He.ga K "_law_odd") fd ∧ Fb P w K mg base 2 (He.ga K "_law_odd") fd ["_law_pot_here"] (sp__law_odd K) := by
  obtain ⟨fd, F⟩ := T.f__law_odd
  refine ⟨fd, F, fb_of F sc__law_odd (fun vs H Q E h => ?_) (fun cdv A outer s H vs Q E hr h => ?_)⟩
  · obtain ⟨p, rfl, _⟩ := h
    rfl
  · obtain ⟨p, rfl, hp, q⟩ := h
    refine ⟨_, (pss_cons (ps_set (i := 1) sc__law_odd.nd rfl (Or.inl rfl) (pe_lst (pa_cons pe_str (pa_cons pe_str (pa_cons pe_str (pa_cons pe_str (pa_cons pe_str (pa_cons pe_str (pa_cons pe_str (pa_cons pe_str (pa_cons pe_str (pa_cons pe_str pa_nil))))))))))))
      (pss_cons (ps_set (i := 1) sc__law_odd.nd rfl (Or.inl rfl) (pe_op op_cat (pv 1) (pe_lst (pa_cons pe_str (pa_cons pe_str (pa_cons pe_str (pa_cons pe_str (pa_cons pe_str (pa_cons pe_str pa_nil)))))))))
      (pss_cons (ps_set (i := 1) sc__law_odd.nd rfl (Or.inl rfl) (pe_op op_cat (pv 1) (pe_lst (pa_cons pe_str (pa_cons pe_str (pa_cons pe_str (pa_cons pe_str (pa_cons pe_str (pa_cons pe_str pa_nil)))))))))
      (pss_cons (ps_set (i := 1) sc__law_odd.nd rfl (Or.inl rfl) (pe_op op_cat (pv 1) (pe_lst (pa_cons pe_str (pa_cons pe_str pa_nil)))))
      (pss_one (ps_ret (pe_ix ix_list (pe_op op_cat (pv 1) (pe_lst (pa_cons pe_str (pa_cons pe_str pa_nil)))) (c_call (ok__law_take T) (hr.mono (by decide)) T.g__law_take T.k__law_take takes0 (pa_cons (pv 0) (pa_cons pe_int pa_nil))) (fun _ _ => rfl)))))))), ?_⟩
    refine ⟨by show 10 ≤ sizeLine; decide, fun l1 n1 => ?_⟩
    have P1 := fun o => pot_new (o := o) (.refl hp) n1
    refine ⟨_, rfl, by show 6 ≤ sizeLine; decide, fun l2 n2 => ?_⟩
    have P2 := fun o => pot_new (o := o) (P1 _) n2
    refine ⟨l1, l2, _, _, rfl, rfl, (by rw [upd_ne (ne_of_none upd_same n2)]; exact upd_same), upd_same, by show 16 ≤ sizeLine; decide, fun l3 n3 => ?_⟩
    have P3 := fun o => pot_new (o := o) (P2 _) n3
    refine ⟨_, rfl, by show 6 ≤ sizeLine; decide, fun l4 n4 => ?_⟩
    have P4 := fun o => pot_new (o := o) (P3 _) n4
    refine ⟨l3, l4, _, _, rfl, rfl, (by rw [upd_ne (ne_of_none upd_same n4)]; exact upd_same), upd_same, by show 22 ≤ sizeLine; decide, fun l5 n5 => ?_⟩
    have P5 := fun o => pot_new (o := o) (P4 _) n5
    refine ⟨_, rfl, by show 2 ≤ sizeLine; decide, fun l6 n6 => ?_⟩
    have P6 := fun o => pot_new (o := o) (P5 _) n6
    refine ⟨l5, l6, _, _, rfl, rfl, (by rw [upd_ne (ne_of_none upd_same n6)]; exact upd_same), upd_same, by show 24 ≤ sizeLine; decide, fun l7 n7 => ?_⟩
    have P7 := fun o => pot_new (o := o) (P6 _) n7
    refine ⟨_, rfl, by show 2 ≤ sizeLine; decide, fun l8 n8 => ?_⟩
    have P8 := fun o => pot_new (o := o) (P7 _) n8
    refine ⟨l7, l8, _, _, rfl, rfl, (by rw [upd_ne (ne_of_none upd_same n8)]; exact upd_same), upd_same, by show 26 ≤ sizeLine; decide, fun l9 n9 => ?_⟩
    have P9 := fun o => pot_new (o := o) (P8 _) n9
    have pl := pot_ne (P8 _) n9
    refine ⟨_, rfl, p, _, rfl, (P9 _).1, by decide, by decide, fun d H8 d0 d1 P8' => ?_⟩
    have h7 := P8'.2 _ _ pl upd_same
    obtain ⟨z, hz, lz⟩ := at_of (B := 30) h7 d0 d1 rfl (by decide +kernel)
    refine ⟨l9, _, _, _, rfl, rfl, sq_lst h7, hz, ?_⟩
    have e : z = SX.S (TL.tl z) := (SX.S_tl z).symm
    rw [e]
    exact q _ _ (by rw [← TL.len_tl]; exact lz) ((P9 _).trans P8')

theorem ok__law_odd {P : Program} {w : World} {K : PySem.W.Frag} {mg : Str → Option Value} {base : Heap} (T : Env K mg) : Fc P w K mg base 2 (He.ga K "_law_odd") [] (sp__law_odd K) := by
  obtain ⟨fd, D, F⟩ := fb__law_odd T
  exact F.all (D.bindsN fun _ _ _ _ _ _ us hl => match us, hl with | [_], _ => rfl)
end
section
def numV (w : List Nat) : V := match Mo.num? w with
  | some n => .int (n : Nat)
  | none => .non
def sp__law_number (K : PySem.W.Frag) : Sp := fun vs H Q _ => ∃ l : List Nat, vs = [.str (SX.S l)] ∧ l.length ≤ 150 ∧ ∀ H', Ex H H' → Q (numV l) H'
theorem fb__law_number {P : Program} {w : World} {K : PySem.W.Frag} {mg : Str → Option Value} {base : Heap} (T : Env K mg) : ∃ fd, FunD K "_law_number" "_law_number" (defArgs s__law_number) (defBody s__law_number) (defScope s__law_number) [] [] (He.ga K "_law_number") fd ∧ Fb P w K mg base 1 (He.ga K "_law_number") fd ["_law_word"] (sp__law_number K) := by
  obtain ⟨fd, F⟩ := T.f__law_number
  refine ⟨fd, F, fb_of F sc__law_number (fun vs H Q E h => ?_) (fun cdv A outer s H vs Q E hr h => ?_)⟩
  · obtain ⟨l, rfl, _⟩ := h
    rfl
  · obtain ⟨l, rfl, hl, q⟩ := h
    refine ⟨_, (pss_cons (ps_if (PW.pt (pw_or (pt_cmpR op_eq (pv 0) pe_str (nomark _)) (pw_or (pt_not (pt_val (pe_callB (cr_all rfl) (by rfl) T.n_all (by decide +kernel) (pa_cons (pe_lc (own := [("_law_sign", 1)]) (by rfl) sc__law_number.nd (pi_str (pv 0)) (blkOk_by (own := [("_law_sign", 1)]) (N := ["_law_word", "_law_sign"]) (sc := defScope s__law_number) (by decide +kernel)) (fun _ _ _ _ _ => (pg_name (i := 1) sc__law_number.nd rfl (Or.inl rfl))) (fun _ _ _ _ _ => pts_nil) (fun _ _ _ _ _ => (pe_cmpR op_in_sign (pv 1) pe_str (by rfl)))) pa_nil)))) (pw_or1 (PW.pt (pw_and (pt_cmpR op_eq (pe_ix ix_str (pv 0) pe_int (fun _ _ => rfl)) pe_str (nomark _)) (pw_and1 (pt_cmpR op_ne (pv 0) pe_str (nomark _)))))))))
      (pss_one (ps_ret pe_non))
      pss_nil)
      (pss_one (ps_ret (pe_callTy call_int_str (by rfl) T.n_int (by decide +kernel) (pa_cons (pv 0) pa_nil))))), ?_⟩
    have ls : (SX.S l).length ≤ sizeLine := Nat.le_of_lt (small_len (by rw [SX.S_len]; omega))
    refine ⟨_, rfl, rfl, _, rfl, ?_⟩
    by_cases h0 : l = []
    · subst h0
      rw [decide_eq_true (show V.str (SX.S []) = V.str (Str.ofString "") from rfl)]
      exact q H (.refl H)
    · rw [decide_eq_false (show ¬ V.str (SX.S l) = V.str (Str.ofString "") from fun z => h0 (by injection z with z; exact SX.S_inj z))]
      refine iteF ?_
      refine ⟨_, rfl, _, rfl, fun D nD => lc_fm L2.walk_str (fun i => some (.bl (Mo.isFig (l.getD i 0)))) (fun H' => Ex H H') (fun H' z e => ex_mut e nD) (.refl H) (by show l.toArray.size ≤ 100000; simp; omega) (fun _ _ => trivial) (fun i x H1 H2 acc N hi e hD la y k => ?_) fun H1 e1 d1 => ?_⟩
      · obtain ⟨rfl, c, hc, rfl⟩ := y
        refine ⟨rfl, _, rfl, c, _, rfl, rfl, acc, hD, la, ?_⟩
        rw [fig_in]
        have e2 : l.getD i 0 = c := by
          have hc2 : l[i]? = some c := by simpa using hc
          rw [List.getD_eq_getElem?_getD, hc2]
          rfl
        have k2 := k H2 e hD
        rw [e2] at k2
        exact k2
      · have d2 : H1 D = some (.lst ((l.map Mo.isFig).map V.bl)) := by
          rw [d1]
          have e3 := range_map_get l 0 (fun c => V.bl (Mo.isFig c))
          have e4 : l.toArray.size = l.length := by simp
          show some (HO.lst (List.filterMap _ (List.range l.toArray.size))) = _
          rw [e4, e3, List.map_map]
          rfl
        refine ⟨D, l.map Mo.isFig, rfl, sq_lst d2, ?_⟩
        have ea : (l.map Mo.isFig).all id = l.all Mo.isFig := by
          rw [List.all_map]
          rfl
        rw [ea]
        have hne : l.isEmpty = false := by cases l with | nil => exact absurd rfl h0 | cons _ _ => rfl
        have hfg : Mo.figs l = l.all Mo.isFig := by
          unfold Mo.figs
          rw [hne]
          rfl
        cases hf : l.all Mo.isFig with
        | false =>
          rw [hf] at hfg
          have q := q H1 e1
          unfold numV Mo.num? at q
          rw [hfg] at q
          exact ⟨false, rfl, q⟩
        | true =>
          rw [hf] at hfg
          refine ⟨true, rfl, iteF ?_⟩
          obtain ⟨_, hd⟩ := Mo.figs_iff.mp hfg
          cases l with
          | nil => exact absurd rfl h0
          | cons a r =>
            have fin : (decide (1 < (a :: r).length) && (a :: r).head? == some 48) = false → (tRet (tCB (fun xs H Q => ∃ (a : Str) (n : Int), xs = [V.str a] ∧ intText? a = some n ∧ a.length ≤ 640 ∧ Q (.int n) H) (tCons (tVar 0) tNil))) { nx := fun _ H' => Q .non H', rt := Q } (start ["_law_word", "_law_sign"] [.str (SX.S (a :: r))]) H1 := fun hz => by
              have q := q H1 e1
              unfold numV Mo.num? at q
              rw [hfg, hz] at q
              exact ⟨_, rfl, _, _, rfl, SX.int_S (Mo.all_fig hd) h0 (by omega), by rw [SX.S_len]; omega, q⟩
            refine ⟨_, rfl, _, _, a, rfl, rfl, ls, (show atI (a :: r) ((0 : Nat) : Int) = some a from atI_nat rfl), rfl, _, rfl, ite2 (fun d => ?_) (fun d => ?_)⟩
            · have d2 : a = 48 := by
                have := of_decide_eq_true d
                injection this with this
                have z : [a] = [48] := SX.S_inj this
                injection z
              subst d2
              refine ⟨_, rfl, rfl, _, rfl, ite2 (fun e => ?_) (fun e => ?_)⟩
              · have r0 : r ≠ [] := fun z => by
                  rw [z] at e
                  exact absurd e (by decide +kernel)
                have q := q H1 e1
                unfold numV Mo.num? at q
                have z : (decide (1 < (48 :: r).length) && (48 :: r).head? == some 48) = true := by
                  have : 0 < r.length := List.length_pos_iff.mpr r0
                  rw [decide_eq_true (show 1 < (48 :: r).length by rw [List.length_cons]; omega)]
                  rfl
                rw [hfg, z] at q
                exact q
              · have r0 : r = [] := by
                  have e2 : decide (V.str (SX.S (48 :: r)) = V.str (Str.ofString "0")) = true := by simpa using e
                  have e3 := of_decide_eq_true e2
                  injection e3 with e3
                  have z : (48 :: r) = [48] := SX.S_inj e3
                  injection z
                exact fin (by rw [r0]; rfl)
            · have d2 : a ≠ 48 := fun z => d (decide_eq_true (by rw [z]; rfl))
              exact fin (by
                have : ((a :: r).head? == some 48) = false := by simpa using d2
                rw [this, Bool.and_false])

theorem ok__law_number {P : Program} {w : World} {K : PySem.W.Frag} {mg : Str → Option Value} {base : Heap} (T : Env K mg) : Fc P w K mg base 1 (He.ga K "_law_number") [] (sp__law_number K) := by
  obtain ⟨fd, D, F⟩ := fb__law_number T
  exact F.all (D.bindsN fun _ _ _ _ _ _ us hl => match us, hl with | [_], _ => rfl)
end
section
theorem srtN_idem (ns : List Nat) : srtN (srtN ns) = srtN ns := by
  have key : ∀ {xs ys : List Nat}, xs.Perm ys → xs.Pairwise (· ≤ ·) → ys.Pairwise (· ≤ ·) → xs = ys := fun {xs ys} p h1 h2 => by
    have e := L3.sorted_uniq (p.map fun n : Nat => (n : Int)) (List.pairwise_map.mpr (h1.imp fun h => by omega)) (List.pairwise_map.mpr (h2.imp fun h => by omega))
    have e2 := congrArg (List.map Int.toNat) e
    rw [List.map_map, List.map_map] at e2
    have e3 : (Int.toNat ∘ fun n : Nat => (n : Int)) = id := funext fun n => by simp
    rw [e3, List.map_id, List.map_id] at e2
    exact e2
  have p : (srtN (srtN ns)).Perm (srtN ns) := by
    have := (srt_perm ((srtN ns).map fun n : Nat => (n : Int))).map Int.toNat
    rw [List.map_map] at this
    have e : (Int.toNat ∘ fun n : Nat => (n : Int)) = id := funext fun n => by simp
    rw [e, List.map_id] at this
    exact this
  exact key p (srtN_le _) (srtN_le _)
/-- the same, its days in order -/
def canon (D : DaysD) : DaysD := ⟨D.bits, D.since, D.till, srtN D.out, srtN D.also⟩
theorem canon_ok {D : DaysD} (h : D.ok) : (canon D).ok := by
  obtain ⟨hs, ht, lo, la, no, na, hdj⟩ := h
  refine ⟨hs, ht, by show (srtN D.out).length ≤ 8; rw [srtN_len]; exact lo, by show (srtN D.also).length ≤ 8; rw [srtN_len]; exact la, of_decide_eq_true (by show decide (srtN D.out).Nodup = true; rw [srtN_nodup]; exact decide_eq_true no), of_decide_eq_true (by show decide (srtN D.also).Nodup = true; rw [srtN_nodup]; exact decide_eq_true na), fun n hn ho => ?_⟩
  exact hdj n ((srtN_mem n _).mp hn) ((srtN_mem n _).mp ho)
theorem canon_txt (D : DaysD) : dtxt (canon D) = dtxt D := by
  unfold dtxt dwords canon wSince wTill
  dsimp only
  rw [srtN_idem, srtN_idem]
theorem canon_has (D : DaysD) (d : Nat) : dHas (canon D) d = dHas D d := by
  unfold dHas canon
  dsimp only
  rw [mem_srtN, mem_srtN]
theorem dtag_num (n : Nat) : dtag (TL.numL n) = none := by
  have no : ∀ w : List Nat, (∃ c ∈ w, 57 < c) → TL.numL n ≠ w := fun w ⟨c, hc, h⟩ e => by
    rw [← e] at hc
    have := TL.numL_digits n c hc
    omega
  unfold dtag
  rw [if_neg (no _ ⟨102, by decide, by decide⟩), if_neg (no _ ⟨116, by decide, by decide⟩), if_neg (no _ ⟨110, by decide, by decide⟩), if_neg (no _ ⟨97, by decide, by decide⟩)]
def addLs (L : Nat → List Nat) (k : Nat) (vs : List Nat) : Nat → List Nat := fun i => if i = k then L i ++ vs else L i
theorem dread_nums (cur : Nat) (R : List (List Nat)) : ∀ (ns : List Nat) (L : Nat → List Nat), dread cur L (ns.map TL.numL ++ R) = dread cur (addLs L cur ns) R
  | [], L => by
    have : addLs L cur [] = L := funext fun i => by
      unfold addLs
      split
      · rw [List.append_nil]
      · rfl
    rw [this]
    rfl
  | n :: ns, L => by
    have ih := dread_nums cur R ns (addL L cur n)
    have e : addLs (addL L cur n) cur ns = addLs L cur (n :: ns) := funext fun i => by
      unfold addLs addL
      split <;> simp
    rw [List.map_cons, List.cons_append, dread_cons, dtag_num, Mo.figs_num, Mo.val_num, ← e, ← ih]
    rfl
theorem dread_list {w : List Nat} {k : Nat} (hw : dtag w = some k) (cur : Nat) (ns : List Nat) (L : Nat → List Nat) (R : List (List Nat)) (h0 : L k = []) : ∃ cur', dread cur L (wList w ns ++ R) = dread cur' (addLs L k ns) R := by
  unfold wList
  split
  · rename_i e
    subst e
    refine ⟨cur, ?_⟩
    have : addLs L k [] = L := funext fun i => by
      unfold addLs
      split
      · rw [List.append_nil]
      · rfl
    rw [this]
    rfl
  · refine ⟨k, ?_⟩
    rw [List.cons_append, dread_cons, hw]
    exact dread_nums k R ns L
theorem daysOf_words {D : DaysD} (h : D.ok) : daysOf (dwords D) = some (canon D) := by
  have e0 : dwords D = D.bits :: (wList wFrom (if 0 < D.since then [D.since] else []) ++ (wList wTo D.till.toList ++ (wList wNot (srtN D.out) ++ (wList wAlso (srtN D.also) ++ [])))) := by
    unfold dwords wSince wTill
    have e1 : (if 0 < D.since then [wFrom, TL.numL D.since] else []) = wList wFrom (if 0 < D.since then [D.since] else []) := by
      split <;> rfl
    have e2 : (match D.till with | some t => [wTo, TL.numL t] | none => []) = wList wTo D.till.toList := by
      cases D.till <;> rfl
    rw [e1, e2]
    simp [List.append_assoc]
  rw [e0]
  unfold daysOf
  dsimp only
  obtain ⟨c1, r1⟩ := dread_list (w := wFrom) (k := 1) rfl 0 (if 0 < D.since then [D.since] else []) (fun _ => []) (wList wTo D.till.toList ++ (wList wNot (srtN D.out) ++ (wList wAlso (srtN D.also) ++ []))) rfl
  obtain ⟨c2, r2⟩ := dread_list (w := wTo) (k := 2) rfl c1 D.till.toList (addLs (fun _ => []) 1 (if 0 < D.since then [D.since] else [])) (wList wNot (srtN D.out) ++ (wList wAlso (srtN D.also) ++ [])) rfl
  obtain ⟨c3, r3⟩ := dread_list (w := wNot) (k := 3) rfl c2 (srtN D.out) (addLs (addLs (fun _ => []) 1 (if 0 < D.since then [D.since] else [])) 2 D.till.toList) (wList wAlso (srtN D.also) ++ []) rfl
  obtain ⟨c4, r4⟩ := dread_list (w := wAlso) (k := 4) rfl c3 (srtN D.also) (addLs (addLs (addLs (fun _ => []) 1 (if 0 < D.since then [D.since] else [])) 2 D.till.toList) 3 (srtN D.out)) [] rfl
  rw [r1, r2, r3, r4]
  have e1 : (([] ++ (if 0 < D.since then [D.since] else []) : List Nat)).headD 0 = D.since := by
    split
    · rfl
    · show 0 = D.since
      omega
  have e2 : ([] ++ D.till.toList : List Nat).head? = D.till := by cases D.till <;> rfl
  show mkDays D.bits ((([] ++ (if 0 < D.since then [D.since] else []) : List Nat)).headD 0) (([] ++ D.till.toList : List Nat).head?) ([] ++ srtN D.out) ([] ++ srtN D.also) = _
  rw [e1, e2]
  exact mkDays_of (canon_ok h)
theorem no32 {D : DaysD} (h : D.ok) : ∀ w ∈ dwords D, 32 ∉ w := fun w hw h32 => by
  have := List.all_eq_true.mp (dwords_all (p := fun c => decide (c ≠ 32)) (fun c h1 h2 => decide_eq_true (by omega)) (fun c h1 h2 => decide_eq_true (by omega)) h w hw) 32 h32
  exact absurd this (by decide)
theorem split_words {D : DaysD} (h : D.ok) : TL.spl [32] 0 [] (dtxt D) = dwords D := TL.spl_join (by unfold dwords; simp) (no32 h)
theorem readD_txt {D : DaysD} (h : D.ok) : readD (dtxt D) = some (canon D) := by
  unfold readD
  rw [split_words h, daysOf_words h]
  exact if_pos (canon_txt D)
/-- two are written alike just where they are alike -/
theorem dtxt_inj {D D' : DaysD} (h : D.ok) (h' : D'.ok) (e : dtxt D = dtxt D') : canon D = canon D' := by
  have e1 := readD_txt h
  rw [e, readD_txt h'] at e1
  exact (Option.some.inj e1).symm
theorem dtxt_eq {D D' : DaysD} (e : canon D = canon D') : dtxt D = dtxt D' := by rw [← canon_txt D, ← canon_txt D', e]
/-- a blank ahead of each word -/
def spW (ws : List (List Nat)) : List Nat := ws.flatMap fun w => 32 :: w
theorem joinL_sp : ∀ (ws : List (List Nat)) (w : List Nat), TL.joinL [32] (w :: ws) = w ++ spW ws
  | [], w => by
    show w = w ++ []
    simp
  | x :: r, w => by
    have ih := joinL_sp r x
    have e : TL.joinL [32] (w :: x :: r) = w ++ ([32] ++ TL.joinL [32] (x :: r)) := rfl
    rw [e, ih]
    unfold spW
    simp
theorem dtxt_sp (D : DaysD) : dtxt D = D.bits ++ spW (wSince D) ++ spW (wTill D) ++ spW (wList wNot (srtN D.out)) ++ spW (wList wAlso (srtN D.also)) := by
  unfold dtxt dwords
  have : [D.bits] ++ wSince D ++ wTill D ++ wList wNot (srtN D.out) ++ wList wAlso (srtN D.also) = D.bits :: (wSince D ++ wTill D ++ wList wNot (srtN D.out) ++ wList wAlso (srtN D.also)) := by simp [List.append_assoc]
  rw [this, joinL_sp]
  unfold spW
  simp only [List.flatMap_append, List.append_assoc]
theorem spW_list (w : List Nat) (ns : List Nat) (h : ns ≠ []) : spW (wList w ns) = 32 :: w ++ 32 :: TL.joinL [32] (ns.map TL.numL) := by
  unfold wList
  rw [if_neg h]
  cases ns with
  | nil => exact absurd rfl h
  | cons n r =>
    rw [List.map_cons, joinL_sp]
    unfold spW
    simp
theorem words_len {D : DaysD} (h : D.ok) (hf : D.fit 150) : ∀ w ∈ TL.spl [32] 0 [] (dtxt D), w.length ≤ 150 := by
  rw [split_words h]
  exact (wlen (by decide) h hf).1

end
section
theorem val_snoc (u : List Nat) (c : Nat) : NumText.digitsVal (u ++ [c]) = NumText.digitsVal u * 10 + (c - 48) := by
  unfold NumText.digitsVal
  rw [List.foldl_append]
  rfl
theorem numL_back : ∀ (k : Nat) (w : List Nat), w.length ≤ k → w ≠ [] → NumText.AllDigits w → w.head? ≠ some 48 → TL.numL (NumText.digitsVal w) = w ∧ 1 ≤ NumText.digitsVal w
  | 0, w, hl, hne, _, _ => absurd (List.length_eq_zero_iff.mp (by omega)) hne
  | k + 1, w, hl, hne, hd, hh => by
    have ew := List.dropLast_concat_getLast hne
    have hc := hd (w.getLast hne) (List.getLast_mem hne)
    generalize w.getLast hne = c at ew hc
    generalize hu : w.dropLast = u at ew
    subst ew
    have hc2 : 48 ≤ c ∧ c ≤ 57 := hc
    rw [val_snoc]
    by_cases u0 : u = []
    · subst u0
      have c0 : c ≠ 48 := fun z => hh (by rw [z]; rfl)
      have e : NumText.digitsVal [] = 0 := rfl
      rw [e, TL.numL_lt (by omega)]
      refine ⟨?_, by omega⟩
      show [48 + (0 * 10 + (c - 48))] = [c]
      rw [show 48 + (0 * 10 + (c - 48)) = c by omega]
    · have hh2 : u.head? ≠ some 48 := fun z => hh (by
        cases u with
        | nil => exact absurd rfl u0
        | cons a r => exact z)
      obtain ⟨h1, h2⟩ := numL_back k u (by simp at hl; omega) u0 (fun x hx => hd x (List.mem_append_left _ hx)) hh2
      rw [TL.numL_step (by omega)]
      rw [show (NumText.digitsVal u * 10 + (c - 48)) / 10 = NumText.digitsVal u by omega, show 48 + (NumText.digitsVal u * 10 + (c - 48)) % 10 = c by omega, h1]
      exact ⟨rfl, by omega⟩
theorem num_inv {w : List Nat} {n : Nat} (h : Mo.num? w = some n) : TL.numL n = w := by
  unfold Mo.num? at h
  split at h
  · rename_i c
    injection h with h
    subst h
    obtain ⟨c1, c2⟩ := Bool.and_eq_true_iff.mp c
    obtain ⟨h0, hd⟩ := Mo.figs_iff.mp c1
    by_cases hh : w.head? = some 48
    · rw [hh] at c2
      have l1 : ¬ 1 < w.length := by simpa using c2
      cases w with
      | nil => exact absurd rfl h0
      | cons a r =>
        have : r = [] := List.length_eq_zero_iff.mp (by rw [List.length_cons] at l1; omega)
        subst this
        injection hh with hh
        subst hh
        decide +kernel
    · exact (numL_back w.length w (Nat.le_refl _) h0 hd hh).1
  · cases h
theorem sorted_ext : ∀ {a b : List Nat}, a.Pairwise (· < ·) → b.Pairwise (· < ·) → (∀ x, x ∈ a ↔ x ∈ b) → a = b
  | [], [], _, _, _ => rfl
  | [], y :: b, _, _, h => absurd ((h y).mpr List.mem_cons_self) (by simp)
  | x :: a, [], _, _, h => absurd ((h x).mp List.mem_cons_self) (by simp)
  | x :: a, y :: b, ha, hb, h => by
    obtain ⟨a1, a2⟩ := List.pairwise_cons.mp ha
    obtain ⟨b1, b2⟩ := List.pairwise_cons.mp hb
    have e : x = y := by
      rcases List.mem_cons.mp ((h x).mp List.mem_cons_self) with e | e
      · exact e
      · rcases List.mem_cons.mp ((h y).mpr List.mem_cons_self) with e2 | e2
        · exact e2.symm
        · have := b1 x e
          have := a1 y e2
          omega
    subst e
    rw [sorted_ext a2 b2 fun z => ⟨fun hz => by
      rcases List.mem_cons.mp ((h z).mp (List.mem_cons_of_mem _ hz)) with e | e
      · have := a1 z hz
        omega
      · exact e, fun hz => by
      rcases List.mem_cons.mp ((h z).mpr (List.mem_cons_of_mem _ hz)) with e | e
      · have := b1 z hz
        omega
      · exact e⟩]

end
section
/-- the numbers of words, all of them numbers -/
def nums? : List (List Nat) → Option (List Nat)
  | [] => some []
  | w :: r => match Mo.num? w, nums? r with
    | some n, some ns => some (n :: ns)
    | _, _ => none
def numL? (ws : List (List Nat)) : Option (List Nat) := match nums? ws with
  | some ns => if ns ≠ [] ∧ ns.length ≤ 8 ∧ ns.Pairwise (· < ·) then some ns else none
  | none => none
theorem nums_inv : ∀ {ws : List (List Nat)} {ns : List Nat}, nums? ws = some ns → ws = ns.map TL.numL
  | [], ns, h => by cases h; rfl
  | w :: r, ns, h => by
    unfold nums? at h
    cases h1 : Mo.num? w with
    | none => rw [h1] at h; cases h
    | some n =>
      cases h2 : nums? r with
      | none => rw [h1, h2] at h; cases h
      | some m =>
        rw [h1, h2] at h
        cases h
        rw [List.map_cons, num_inv h1, ← nums_inv h2]
theorem nums_map : ∀ ns : List Nat, nums? (ns.map TL.numL) = some ns
  | [] => rfl
  | n :: r => by
    rw [List.map_cons]
    unfold nums?
    rw [Mo.num_num, nums_map r]
theorem numL_iff {ws : List (List Nat)} {ns : List Nat} : numL? ws = some ns ↔ ws = ns.map TL.numL ∧ ns ≠ [] ∧ ns.length ≤ 8 ∧ ns.Pairwise (· < ·) := by
  unfold numL?
  constructor
  · intro h
    cases h1 : nums? ws with
    | none => rw [h1] at h; cases h
    | some m =>
      rw [h1] at h
      dsimp only at h
      split at h
      · rename_i c
        cases h
        exact ⟨nums_inv h1, c⟩
      · cases h
  · rintro ⟨rfl, c⟩
    rw [nums_map]
    dsimp only
    rw [if_pos c]
/-- what stands ahead of a word, and the numbers behind it -/
def cutW (w : List Nat) (ws : List (List Nat)) : List (List Nat) × Option (List Nat) := if w ∈ ws then (ws.take (ws.idxOf w), numL? (ws.drop (ws.idxOf w + 1))) else (ws, some [])
theorem idx_split {w : List Nat} {ws : List (List Nat)} (h : w ∈ ws) : ws = ws.take (ws.idxOf w) ++ w :: ws.drop (ws.idxOf w + 1) := by
  have hl := List.idxOf_lt_length_of_mem h
  have e : ws[ws.idxOf w] = w := List.getElem_idxOf hl
  calc ws = ws.take (ws.idxOf w) ++ ws.drop (ws.idxOf w) := (List.take_append_drop _ _).symm
    _ = _ := by rw [List.drop_eq_getElem_cons hl, e]
theorem cut_inv {w : List Nat} {ws u : List (List Nat)} {ns : List Nat} (h : cutW w ws = (u, some ns)) : ws = u ++ wList w ns ∧ ns.length ≤ 8 ∧ ns.Pairwise (· < ·) := by
  unfold cutW at h
  split at h
  · rename_i hm
    injection h with h1 h2
    obtain ⟨e1, e2, e3, e4⟩ := numL_iff.mp h2
    refine ⟨?_, e3, e4⟩
    unfold wList
    rw [if_neg e2, ← e1, ← h1]
    exact idx_split hm
  · injection h with h1 h2
    injection h2 with h2
    subst h1 h2
    refine ⟨?_, Nat.zero_le _, List.Pairwise.nil⟩
    unfold wList
    rw [if_pos rfl, List.append_nil]
theorem cut_of {w : List Nat} {u : List (List Nat)} {ns : List Nat} (hw : w ∉ u) (h8 : ns.length ≤ 8) (hs : ns.Pairwise (· < ·)) : cutW w (u ++ wList w ns) = (u, some ns) := by
  unfold cutW wList
  by_cases h0 : ns = []
  · rw [if_pos h0, List.append_nil, if_neg hw, h0]
  · rw [if_neg h0, if_pos (List.mem_append_right _ List.mem_cons_self)]
    have e : (u ++ w :: ns.map TL.numL).idxOf w = u.length := by
      rw [List.idxOf_append, if_neg hw, List.idxOf_cons_self, Nat.zero_add]
    rw [e, List.take_left' rfl]
    have e2 : (u ++ w :: ns.map TL.numL).drop (u.length + 1) = ns.map TL.numL := by
      rw [List.drop_append]
      simp
    rw [e2, numL_iff.mpr ⟨rfl, h0, h8, hs⟩]
/-- what is left of words, and the numbers -/
structure PartsD where
  ws : List (List Nat)
  f : Option (List Nat)
  t : Option (List Nat)
  n : Option (List Nat)
  a : Option (List Nat)
def partsD (W : List (List Nat)) : PartsD :=
  let c1 := cutW wAlso W
  let c2 := cutW wNot c1.1
  let c3 := cutW wTo c2.1
  let c4 := cutW wFrom c3.1
  ⟨c4.1, c4.2, c3.2, c2.2, c1.2⟩
def goodP (b : List Nat) (f t n a : List Nat) : Prop := sgn b = true ∧ f.length ≤ 1 ∧ t.length ≤ 1 ∧ f ≠ [0] ∧ tillOk (f.headD 0) t.head? = true ∧ ∀ x ∈ a, x ∉ n
instance (b f t n a : List Nat) : Decidable (goodP b f t n a) := by unfold goodP; infer_instance
def lread (W : List (List Nat)) : Option DaysD := match partsD W with
  | ⟨[b], some f, some t, some n, some a⟩ => if goodP b f t n a then some ⟨b, f.headD 0, t.head?, n, a⟩ else none
  | _ => none
theorem srtN_id {ns : List Nat} (h : ns.Pairwise (· < ·)) : srtN ns = ns := sorted_ext (srtN_lt (h.imp fun {a b} (z : a < b) => Nat.ne_of_lt z)) h fun x => srtN_mem x ns
theorem wFrom_of {b : List Nat} {f : List Nat} {t : Option Nat} {n a : List Nat} (h1 : f.length ≤ 1) (h0 : f ≠ [0]) : wList wFrom f = wSince ⟨b, f.headD 0, t, n, a⟩ := by
  unfold wList wSince
  match f, h1, h0 with
  | [], _, _ => rfl
  | [s], _, h0 =>
    have : 0 < s := Nat.pos_of_ne_zero fun z => h0 (by rw [z])
    rw [if_neg (by simp)]
    show _ = if 0 < s then _ else _
    rw [if_pos this]
    rfl
theorem wTo_of {b : List Nat} {s : Nat} {t : List Nat} {n a : List Nat} (h1 : t.length ≤ 1) : wList wTo t = wTill ⟨b, s, t.head?, n, a⟩ := by
  unfold wList wTill
  match t, h1 with
  | [], _ => rfl
  | [u], _ => rfl
theorem lread_inv {W : List (List Nat)} {D : DaysD} (h : lread W = some D) : D.ok ∧ dwords D = W := by
  unfold lread at h
  split at h
  · rename_i b f t n a e
    split at h
    · rename_i g
      cases h
      obtain ⟨g1, g2, g3, g4, g5, g6⟩ := g
      unfold partsD at e
      dsimp only at e
      injection e with e1 e2 e3 e4 e5
      obtain ⟨p1, p2, p3⟩ := cut_inv (w := wAlso) (ws := W) (u := (cutW wAlso W).1) (ns := a) (by rw [← e5])
      obtain ⟨q1, q2, q3⟩ := cut_inv (w := wNot) (ws := (cutW wAlso W).1) (u := (cutW wNot (cutW wAlso W).1).1) (ns := n) (by rw [← e4])
      obtain ⟨r1, r2, r3⟩ := cut_inv (w := wTo) (ws := (cutW wNot (cutW wAlso W).1).1) (u := (cutW wTo (cutW wNot (cutW wAlso W).1).1).1) (ns := t) (by rw [← e3])
      obtain ⟨s1, s2, s3⟩ := cut_inv (w := wFrom) (ws := (cutW wTo (cutW wNot (cutW wAlso W).1).1).1) (u := (cutW wFrom (cutW wTo (cutW wNot (cutW wAlso W).1).1).1).1) (ns := f) (by rw [← e2])
      refine ⟨⟨g1, fun u hu => ?_, q2, p2, q3.imp fun {a b} (z : a < b) => Nat.ne_of_lt z, p3.imp fun {a b} (z : a < b) => Nat.ne_of_lt z, g6⟩, ?_⟩
      · have hu : t.head? = some u := hu
        rw [hu] at g5
        exact of_decide_eq_true g5
      · unfold dwords
        show [b] ++ _ ++ _ ++ wList wNot (srtN n) ++ wList wAlso (srtN a) = W
        rw [srtN_id q3, srtN_id p3, ← wFrom_of (b := b) (t := t.head?) (n := n) (a := a) g2 g4, ← wTo_of (b := b) (s := f.headD 0) (n := n) (a := a) g3]
        rw [e1] at s1
        rw [← s1, ← r1, ← q1]
        exact p1.symm
    · cases h
  · cases h
theorem lread_of {D : DaysD} (h : D.ok) (ho : D.out.Pairwise (· < ·)) (ha : D.also.Pairwise (· < ·)) : lread (dwords D) = some D := by
  obtain ⟨hs, ht, lo, la, no, na, hdj⟩ := h
  obtain ⟨b, s, t, o, a⟩ := D
  dsimp only at hs ht lo la no na hdj ho ha
  let f : List Nat := if 0 < s then [s] else []
  have f1 : f.length ≤ 1 := by
    show (if 0 < s then [s] else []).length ≤ 1
    split <;> simp
  have f0 : f ≠ [0] := by
    show (if 0 < s then [s] else []) ≠ [0]
    split
    · intro z
      injection z with z
      omega
    · simp
  have fh : f.headD 0 = s := by
    show (if 0 < s then [s] else []).headD 0 = s
    split
    · rfl
    · show 0 = s
      omega
  have t1 : t.toList.length ≤ 1 := by cases t <;> simp
  have th : t.toList.head? = t := by cases t <;> rfl
  have eD : dwords ⟨b, s, t, o, a⟩ = [b] ++ wList wFrom f ++ wList wTo t.toList ++ wList wNot o ++ wList wAlso a := by
    unfold dwords
    show [b] ++ _ ++ _ ++ wList wNot (srtN o) ++ wList wAlso (srtN a) = _
    rw [srtN_id ho, srtN_id ha, wFrom_of (b := b) (t := t) (n := o) (a := a) f1 f0, wTo_of (b := b) (s := s) (n := o) (a := a) t1, fh, th]
  have nb : ∀ (w : List Nat), (∃ c ∈ w, 97 ≤ c) → w ≠ b := fun w ⟨c, hc, h97⟩ z => by
    subst z
    have := List.all_eq_true.mp (Bool.and_eq_true_iff.mp hs).2 c hc
    simp only [Bool.or_eq_true, beq_iff_eq] at this
    omega
  have nn : ∀ (w : List Nat) (k : Nat), (∃ c ∈ w, 97 ≤ c) → w ≠ TL.numL k := fun w k ⟨c, hc, h97⟩ z => by
    rw [z] at hc
    have := TL.numL_digits k c hc
    omega
  have nl : ∀ (w v : List Nat) (ns : List Nat), (∃ c ∈ w, 97 ≤ c) → w ≠ v → w ∉ wList v ns := fun w v ns hc hv hm => by
    unfold wList at hm
    split at hm
    · cases hm
    · rcases List.mem_cons.mp hm with e | e
      · exact hv e
      · obtain ⟨k, _, e⟩ := List.mem_map.mp e
        exact nn w k hc e.symm
  have cA : ∃ c ∈ wAlso, 97 ≤ c := ⟨97, by decide, by decide⟩
  have cN : ∃ c ∈ wNot, 97 ≤ c := ⟨110, by decide, by decide⟩
  have cT : ∃ c ∈ wTo, 97 ≤ c := ⟨116, by decide, by decide⟩
  have cF : ∃ c ∈ wFrom, 97 ≤ c := ⟨102, by decide, by decide⟩
  have k1 : wFrom ∉ [b] := fun z => nb _ cF (List.mem_singleton.mp z)
  have k2 : wTo ∉ [b] ++ wList wFrom f := fun z => by
    rcases List.mem_append.mp z with z | z
    · exact nb _ cT (List.mem_singleton.mp z)
    · exact nl _ _ _ cT (by decide) z
  have k3 : wNot ∉ [b] ++ wList wFrom f ++ wList wTo t.toList := fun z => by
    rcases List.mem_append.mp z with z | z
    · rcases List.mem_append.mp z with z | z
      · exact nb _ cN (List.mem_singleton.mp z)
      · exact nl _ _ _ cN (by decide) z
    · exact nl _ _ _ cN (by decide) z
  have k4 : wAlso ∉ [b] ++ wList wFrom f ++ wList wTo t.toList ++ wList wNot o := fun z => by
    rcases List.mem_append.mp z with z | z
    · rcases List.mem_append.mp z with z | z
      · rcases List.mem_append.mp z with z | z
        · exact nb _ cA (List.mem_singleton.mp z)
        · exact nl _ _ _ cA (by decide) z
      · exact nl _ _ _ cA (by decide) z
    · exact nl _ _ _ cA (by decide) z
  have one : ∀ {l : List Nat}, l.length ≤ 1 → l.Pairwise (· < ·) := fun {l} h => by
    match l, h with
    | [], _ => exact .nil
    | [x], _ => exact List.pairwise_singleton _ _
  have e : partsD (dwords ⟨b, s, t, o, a⟩) = ⟨[b], some f, some t.toList, some o, some a⟩ := by
    unfold partsD
    dsimp only
    rw [eD, cut_of k4 la ha]
    dsimp only
    rw [cut_of k3 lo ho]
    dsimp only
    rw [cut_of k2 (by omega) (one t1)]
    dsimp only
    rw [cut_of k1 (by omega) (one f1)]
  unfold lread
  rw [e]
  dsimp only
  have g : goodP b f t.toList o a := by
    refine ⟨hs, f1, t1, f0, ?_, hdj⟩
    rw [fh, th]
    cases t with
    | none => rfl
    | some u => exact decide_eq_true (ht u rfl)
  rw [if_pos g, fh, th]
theorem readD_some {l : List Nat} {D : DaysD} (h : readD l = some D) : D.ok ∧ dtxt D = l := by
  unfold readD at h
  split at h
  · rename_i D' e
    split at h
    · rename_i c
      cases h
      refine ⟨?_, c⟩
      cases hw : TL.spl [32] 0 [] l with
      | nil => exact absurd hw (Mo.spl_ne _ _ _ _)
      | cons b ws =>
        rw [hw] at e
        unfold daysOf at e
        dsimp only at e
        split at e
        · cases e
        · exact (mkDays_ok e).1
    · cases h
  · cases h
theorem lread_readD (l : List Nat) : lread (TL.spl [32] 0 [] l) = (readD l).map canon := by
  cases hr : readD l with
  | some D =>
    obtain ⟨hD, e⟩ := readD_some hr
    show _ = some (canon D)
    have hC := canon_ok hD
    have e1 : TL.spl [32] 0 [] l = dwords (canon D) := by
      rw [← e, ← canon_txt, split_words hC]
    rw [e1]
    exact lread_of hC (srtN_lt hD.2.2.2.2.1) (srtN_lt hD.2.2.2.2.2.1)
  | none =>
    show _ = none
    cases hx : lread (TL.spl [32] 0 [] l) with
    | none => rfl
    | some D =>
      obtain ⟨hD, e⟩ := lread_inv hx
      have e1 : dtxt D = l := by
        unfold dtxt
        rw [e, join_spl]
      rw [← e1, readD_txt hD] at hr
      cases hr

end
section
theorem eqv_natD : ∀ a b : List Nat, PyData.eqvAll (natD a) (natD b) = decide (a = b)
  | [], [] => rfl
  | [], _ :: _ => rfl
  | _ :: _, [] => rfl
  | x :: a, y :: b => by
    show (decide (((x : Nat) : Int) = ((y : Nat) : Int)) && PyData.eqvAll (natD a) (natD b)) = _
    rw [eqv_natD a b]
    by_cases h : x = y
    · subst h
      simp
    · have : ¬ ((x : Nat) : Int) = ((y : Nat) : Int) := fun z => h (by omega)
      simp [this, h]

end
section
theorem natV_toNat {l : List Int} (h : ∀ i ∈ l, 0 ≤ i) : l.map V.int = natV (l.map Int.toNat) := by
  unfold natV
  rw [List.map_map]
  apply List.map_congr_left
  intro i hi
  show V.int i = V.int ((i.toNat : Nat) : Int)
  rw [Int.toNat_of_nonneg (h i hi)]
theorem toNat_lt {l : List Int} (h : ∀ i ∈ l, 0 ≤ i) (s : l.Pairwise (· < ·)) : (l.map Int.toNat).Pairwise (· < ·) := by
  refine List.pairwise_map.mpr (s.imp_of_mem fun {a b} ha hb z => ?_)
  have := h a ha
  have := h b hb
  omega
theorem natV_app (a b : List Nat) : natV a ++ natV b = natV (a ++ b) := by
  unfold natV
  rw [List.map_append]

end
section
def numD (w : List Nat) : PyData := match Mo.num? w with
  | some n => .int (n : Nat)
  | none => .none
theorem dp_num (K : PySem.W.Frag) (H : Hp) : ∀ ws : List (List Nat), DpAll K H (ws.map numV) (ws.map numD)
  | [] => .nil
  | w :: r => by
    refine .cons ?_ (dp_num K H r)
    unfold numV numD
    cases Mo.num? w with
    | none => exact .non
    | some n => exact .int _
theorem num_shaped (ws : List (List Nat)) : SeqAt.shaped (.list (ws.map numD)) = true := by
  have h1 : ∀ ws : List (List Nat), PyData.canLayAll0 (ws.map numD) = true := fun ws => by
    induction ws with
    | nil => rfl
    | cons w r ih =>
      show (PyData.canLay0 (numD w) && PyData.canLayAll0 (r.map numD)) = true
      rw [ih]
      unfold numD
      cases Mo.num? w <;> rfl
  have h2 : ∀ ws : List (List Nat), PyData.depthAll (ws.map numD) = 0 := fun ws => by
    induction ws with
    | nil => rfl
    | cons w r ih =>
      show max (PyData.depth (numD w)) (PyData.depthAll (r.map numD)) = 0
      rw [ih]
      unfold numD
      cases Mo.num? w <;> rfl
  show (PyData.canLayAll0 (ws.map numD) && decide (PyData.depthAll (ws.map numD) + 1 ≤ 64)) = true
  rw [h1, h2]
  rfl
theorem flat_num (ws : List (List Nat)) : (ws.map numV).all flatV = true := by
  rw [List.all_map, List.all_eq_true]
  intro w _
  show flatV (numV w) = true
  unfold numV
  cases Mo.num? w <;> rfl
theorem numV_none : ∀ {ws : List (List Nat)}, nums? ws = none → inV .non (ws.map numV) = true
  | [], h => by cases h
  | w :: r, h => by
    show (eqV (numV w) .non || inV .non (r.map numV)) = true
    cases h1 : Mo.num? w with
    | none =>
      have : numV w = .non := by unfold numV; rw [h1]
      rw [this]
      rfl
    | some n =>
      cases h2 : nums? r with
      | none => rw [numV_none h2, Bool.or_true]
      | some m =>
        unfold nums? at h
        rw [h1, h2] at h
        cases h
theorem inV_non_nat : ∀ ns : List Nat, inV .non (natV ns) = false
  | [] => rfl
  | n :: r => by
    show (eqV (.int (n : Nat)) .non || inV .non (natV r)) = false
    rw [inV_non_nat r]
    rfl
theorem numV_some {ws : List (List Nat)} {ns : List Nat} (h : nums? ws = some ns) : ws.map numV = natV ns ∧ ns.length = ws.length := by
  have e := nums_inv h
  subst e
  refine ⟨?_, (List.length_map _).symm⟩
  unfold natV
  rw [List.map_map]
  apply List.map_congr_left
  intro n _
  show numV (TL.numL n) = _
  unfold numV
  rw [Mo.num_num]
def sp__law_list (K : PySem.W.Frag) : Sp := fun vs H Q _ => ∃ (a : Addr) (ws : List (List Nat)), vs = [.ref a] ∧ H a = some (.lst (sV ws)) ∧ ws.length ≤ 200 ∧ (∀ w ∈ ws, w.length ≤ 150) ∧ (numL? ws = none → ∀ H', Ex H H' → Q .non H') ∧ (∀ ns, numL? ws = some ns → ∀ p H', Ex H H' → H' p = some (.lst (natV ns)) → Q (.ref p) H')
theorem fb__law_list {P : Program} {w : World} {K : PySem.W.Frag} {mg : Str → Option Value} {base : Heap} (T : Env K mg) : ∃ fd, FunD K "_law_list" "_law_list" (defArgs s__law_list) (defBody s__law_list) (defScope s__law_list) [] [] (He.ga K "_law_list") fd ∧ Fb P w K mg base 2 (He.ga K "_law_list") fd ["_law_words"] (sp__law_list K) := by
  obtain ⟨fd, F⟩ := T.f__law_list
  refine ⟨fd, F, fb_of F sc__law_list (fun vs H Q E h => ?_) (fun cdv A outer s H vs Q E hr h => ?_)⟩
  · obtain ⟨a, ws, rfl, _⟩ := h
    rfl
  · obtain ⟨a, ws, rfl, ha, wl, wb, qn, qs⟩ := h
    refine ⟨_, (pss_cons (ps_setLc (i := 1) (own := [("_law_word", 2)]) (by rfl) sc__law_list.nd rfl rfl (sw_true rfl rfl rfl (by decide +kernel)) (pi_list (pv 0)) (blkOk_by (own := [("_law_word", 2)]) (N := ["_law_words", "_law_found", "_law_word"]) (sc := defScope s__law_list) (by decide +kernel)) (fun _ _ _ _ _ => (pg_name (i := 2) sc__law_list.nd rfl (Or.inl rfl))) (fun _ _ _ _ _ => pts_nil) (fun _ _ _ _ _ => (c_call (ok__law_number T) (hr.mono (by decide)) T.g__law_number T.k__law_number takes0 (pa_cons (pv 2) pa_nil))))
      (pss_cons (ps_if (PW.pt (pw_or (pt_cmpR (op_eqD hr.rm.units) (pv 1) (pe_lst pa_nil) (nomark _)) (pw_or (pt_cmpR op_gt (pe_callB call_len (by rfl) T.n_len (by decide +kernel) (pa_cons (pv 1) pa_nil)) pe_int (nomark _)) (pw_or (pt_cmpR op_in_seq pe_non (pv 1) (by rfl)) (pw_or1 (pt_cmpR (op_neD hr.rm.units) (pv 1) (pe_callB (cr_sortedSA rfl) (by rfl) T.n_sorted (by decide +kernel) (pa_cons (pe_callTy (cr_setI K rfl) (by rfl) T.n_set (by decide +kernel) (pa_cons (pv 1) pa_nil)) pa_nil)) (nomark _)))))))
      (pss_one (ps_ret pe_non))
      pss_nil)
      (pss_one (ps_ret (pv 1))))), ?_⟩
    have ha' : H a = some (.lst (ws.map fun w => V.str (SX.S w))) := ha
    refine ⟨_, rfl, a, rfl, ⟨_, sq_lst ha'⟩, fun A nA => lc_on ws (fun w => V.str (SX.S w)) L2.walk_list (fun w => some (numV w)) (fun H' => Ex H H') (fun H' z e => ex_mut e nA) (.refl _) (by omega) (fun H' e => sq_lst (e _ _ ha')) (fun i w H1 acc N hw X1 hA la k => ?_) fun H1 X1 d1 => ?_⟩
    · exact ⟨rfl, _, rfl, w, rfl, wb w (List.mem_of_getElem? hw), fun H2 X2 => ⟨acc, X2 _ _ hA, la, k H2 (X1.trans X2) (X2 _ _ hA)⟩⟩
    rw [List.filterMap_eq_map'] at d1
    have d2 : H1 A = some (.lst (ws.map numV)) := d1
    refine ⟨_, rfl, by show 0 ≤ sizeLine; decide, fun e0 ne0 => ?_⟩
    have X2 := X1.trans (ex_new (o := .lst []) ne0)
    have d3 := ex_new (o := .lst []) ne0 _ _ d2
    refine ⟨.list (ws.map numD), .list [], .lst (sq_lst d3) (dp_num K _ ws), .lst (sq_lst upd_same) .nil, num_shaped ws, rfl, _, rfl, ?_⟩
    generalize upd H1 e0 (.lst []) = H2 at X2 d3 ⊢
    cases ws with
    | nil => exact qn rfl H2 X2
    | cons w0 wr =>
      generalize hws : w0 :: wr = ws at *
      have hne : PyData.eqv (.list (ws.map numD)) (.list []) = false := by rw [← hws]; rfl
      rw [hne]
      refine iteF ?_
      refine ⟨_, rfl, _, _, rfl, .inl ⟨_, sq_lst d3, rfl⟩, _, _, rfl, rfl, _, rfl, ?_⟩
      rw [List.length_map]
      by_cases c8 : 8 < ws.length
      · rw [decide_eq_true (show (8 : Int) < ((ws.length : Nat) : Int) by omega)]
        refine qn ?_ H2 X2
        cases hn : numL? ws with
        | none => rfl
        | some ns =>
          obtain ⟨e1, _, e3, _⟩ := numL_iff.mp hn
          rw [e1, List.length_map] at c8
          omega
      rw [decide_eq_false (show ¬ (8 : Int) < ((ws.length : Nat) : Int) by omega)]
      refine iteF ?_
      refine ⟨_, rfl, A, _, rfl, .inl (sq_lst d3), rfl, flat_num ws, _, rfl, ?_⟩
      cases hn : nums? ws with
      | none =>
        rw [show (if false = true then !inV .non (ws.map numV) else inV .non (ws.map numV)) = true from numV_none hn]
        exact qn (by unfold numL?; rw [hn]) H2 X2
      | some ns =>
        obtain ⟨e1, e2⟩ := numV_some hn
        rw [e1] at d3 ⊢
        rw [show (if false = true then !inV .non (natV ns) else inV .non (natV ns)) = false from inV_non_nat ns]
        refine iteF ?_
        refine ⟨_, rfl, _, rfl, A, ns.map (fun n : Nat => (n : Int)), rfl, .inl (by rw [← nat_int]; exact sq_lst d3), by rw [List.length_map]; omega, fun s n ns' hn' => ?_⟩
        refine ⟨s, _, _, rfl, upd_same, fun es p srtd mem le np => ?_⟩
        have h0 : ∀ i ∈ es, 0 ≤ i := fun i hi => by
          obtain ⟨x, _, e⟩ := List.mem_map.mp (of_decide_eq_true ((mem i).mp hi))
          omega
        rw [natV_toNat h0]
        have m1 : ∀ e, e ∈ es.map Int.toNat ↔ e ∈ ns := fun e => by
          constructor
          · intro h
            obtain ⟨i, hi, e1⟩ := List.mem_map.mp h
            obtain ⟨x, hx, e2⟩ := List.mem_map.mp (of_decide_eq_true ((mem i).mp hi))
            have : x = e := by omega
            exact this ▸ hx
          · intro h
            exact List.mem_map.mpr ⟨(e : Int), (mem e).mpr (decide_eq_true (List.mem_map.mpr ⟨e, h, rfl⟩)), by simp⟩
        have Y := (ex_new ns').trans (ex_new (o := .lst (natV (es.map Int.toNat))) np)
        have sE := toNat_lt h0 srtd
        refine ⟨.list (natD ns), .list (natD (es.map Int.toNat)), .lst (sq_lst (Y _ _ d3)) (dp_nat K _ ns), .lst (sq_lst upd_same) (dp_nat K _ _), shapedL_nat ns, shapedL_nat _, _, rfl, ?_⟩
        have ee : PyData.eqv (.list (natD ns)) (.list (natD (es.map Int.toNat))) = decide (ns = es.map Int.toNat) := eqv_natD _ _
        rw [ee]
        have n0 : ns ≠ [] := fun z => by
          rw [z] at e2
          rw [← hws] at e2
          cases e2
        by_cases hs : ns.Pairwise (· < ·)
        · rw [decide_eq_true (sorted_ext hs sE fun x => (m1 x).symm)]
          refine iteF ?_
          exact ⟨_, rfl, qs ns (numL_iff.mpr ⟨nums_inv hn, n0, by omega, hs⟩) A _ (X2.trans Y) (Y _ _ d3)⟩
        · rw [decide_eq_false (fun z => hs (by rw [z]; exact sE))]
          refine iteT ?_
          refine qn ?_ _ (X2.trans Y)
          cases hz : numL? ws with
          | none => rfl
          | some m =>
            obtain ⟨e3, _, _, e4⟩ := numL_iff.mp hz
            rw [e3, nums_map] at hn
            cases hn
            exact absurd e4 hs

theorem ok__law_list {P : Program} {w : World} {K : PySem.W.Frag} {mg : Str → Option Value} {base : Heap} (T : Env K mg) : Fc P w K mg base 2 (He.ga K "_law_list") [] (sp__law_list K) := by
  obtain ⟨fd, D, F⟩ := fb__law_list T
  exact F.all (D.bindsN fun _ _ _ _ _ _ us hl => match us, hl with | [_], _ => rfl)
end
section
/-- the words, and what is left and told at each -/
def tg (i : Nat) : List Nat := [wAlso, wNot, wTo, wFrom].getD i []
def wsAt (W : List (List Nat)) : Nat → List (List Nat)
  | 0 => W
  | i + 1 => (cutW (tg i) (wsAt W i)).1
def osAt (W : List (List Nat)) (i : Nat) : Option (List Nat) := (cutW (tg i) (wsAt W i)).2
theorem parts_at (W : List (List Nat)) : partsD W = ⟨wsAt W 4, osAt W 3, osAt W 2, osAt W 1, osAt W 0⟩ := rfl
theorem wsAt_sub (W : List (List Nat)) : ∀ i, (wsAt W i).length ≤ W.length ∧ ∀ w ∈ wsAt W i, w ∈ W
  | 0 => ⟨Nat.le_refl _, fun w h => h⟩
  | i + 1 => by
    obtain ⟨h1, h2⟩ := wsAt_sub W i
    show ((cutW (tg i) (wsAt W i)).1).length ≤ _ ∧ ∀ w ∈ (cutW (tg i) (wsAt W i)).1, w ∈ W
    unfold cutW
    split
    · exact ⟨by rw [List.length_take]; omega, fun w h => h2 w (List.mem_of_mem_take h)⟩
    · exact ⟨h1, h2⟩
def keyT (w : List Nat) : Key := Sum.inr (SX.S w)
def kvT (xs : List V) : List (Key × V) := ([wAlso, wNot, wTo, wFrom].map keyT).zip xs
theorem kvT_put {xs : List V} {i : Nat} (hi : i < 4) (hl : xs.length = i) (v : V) : putK (kvT xs) (keyT (tg i)) v = kvT (xs ++ [v]) := by
  match i, hi, xs, hl with
  | 0, _, [], _ => rfl
  | 1, _, [a], _ => rfl
  | 2, _, [a, b], _ => rfl
  | 3, _, [a, b, c], _ => rfl
theorem kvT_put2 {xs : List V} {i : Nat} (hi : i < 4) (hl : xs.length = i) (u v : V) : putK (kvT (xs ++ [u])) (keyT (tg i)) v = kvT (xs ++ [v]) := by
  match i, hi, xs, hl with
  | 0, _, [], _ => rfl
  | 1, _, [a], _ => rfl
  | 2, _, [a, b], _ => rfl
  | 3, _, [a, b, c], _ => rfl
theorem kvT_len (xs : List V) : (kvT xs).length ≤ 4 := by
  unfold kvT
  rw [List.length_zip]
  show min 4 _ ≤ 4
  omega
def optL (H : Hp) (d : Addr) (x : V) (o : Option (List Nat)) : Prop := match o with
  | none => x = .non
  | some ns => ∃ p, x = .ref p ∧ p ≠ d ∧ H p = some (.lst (natV ns))
theorem optL.oth {H H' : Hp} {d : Addr} {x : V} {o : Option (List Nat)} (h : optL H d x o) (e : Oth d H H') : optL H' d x o := by
  cases o with
  | none => exact h
  | some ns =>
    obtain ⟨p, h1, h2, h3⟩ := h
    exact ⟨p, h1, h2, e _ _ h2 h3⟩
theorem inV_sV (w : List Nat) : ∀ W : List (List Nat), inV (.str (SX.S w)) (sV W) = decide (w ∈ W)
  | [] => rfl
  | x :: r => by
    show (eqV (.str (SX.S x)) (.str (SX.S w)) || inV (.str (SX.S w)) (sV r)) = _
    rw [inV_sV w r]
    have e : eqV (.str (SX.S x)) (.str (SX.S w)) = decide (w = x) := by
      show (SX.S x == SX.S w) = _
      rw [SX.S_beq_eq]
      exact decide_eq_decide.mpr eq_comm
    rw [e, ← Bool.decide_or]
    exact decide_eq_decide.mpr List.mem_cons.symm
theorem flat_sV (W : List (List Nat)) : (sV W).all flatV = true := by
  unfold sV
  rw [List.all_map, List.all_eq_true]
  intro w _
  rfl
def od (o : Option (List Nat)) : PyData := match o with
  | none => .none
  | some ns => .list (natD ns)
theorem od_eqv (o : Option (List Nat)) : PyData.eqv (od o) .none = o.isNone := by cases o <;> rfl
theorem od_dp {K : PySem.W.Frag} {H : Hp} {d : Addr} {x : V} {o : Option (List Nat)} (h : optL H d x o) : Dp K H x (od o) := by
  cases o with
  | none =>
    cases (show x = .non from h)
    exact .non
  | some ns =>
    obtain ⟨p, rfl, _, e⟩ := h
    exact .lst (sq_lst e) (dp_nat K H ns)
theorem od_lay (o : Option (List Nat)) : PyData.canLay0 (od o) = true ∧ PyData.depth (od o) ≤ 1 := by
  cases o with
  | none => exact ⟨rfl, Nat.zero_le _⟩
  | some ns =>
    refine ⟨natD_lay ns, ?_⟩
    show PyData.depthAll (natD ns) + 1 ≤ 1
    rw [natD_dep]
    exact Nat.le_refl _
theorem od_shaped (a b c e : Option (List Nat)) : SeqAt.shaped (.list [od a, od b, od c, od e]) = true := by
  show ((PyData.canLay0 (od a) && (PyData.canLay0 (od b) && (PyData.canLay0 (od c) && (PyData.canLay0 (od e) && true)))) && decide (max (PyData.depth (od a)) (max (PyData.depth (od b)) (max (PyData.depth (od c)) (max (PyData.depth (od e)) 0))) + 1 ≤ 64)) = true
  rw [(od_lay a).1, (od_lay b).1, (od_lay c).1, (od_lay e).1]
  have h1 := (od_lay a).2
  have h2 := (od_lay b).2
  have h3 := (od_lay c).2
  have h4 := (od_lay e).2
  rw [decide_eq_true (by omega)]
  rfl
theorem cut_dropV (xs : List V) (n : Nat) : cutV xs (some (n : Int)) none = xs.drop n := by
  unfold cutV
  rw [HT.sIx_none, HT.sIx_nat]
  by_cases h : n ≤ xs.length
  · rw [Nat.min_eq_left h]
    exact List.take_of_length_le (by rw [List.length_drop]; exact Nat.le_refl _)
  · rw [Nat.min_eq_right (by omega), List.drop_of_length_le (Nat.le_refl _), List.drop_of_length_le (by omega), List.take_nil]
theorem cut_takeV (xs : List V) (n : Nat) : cutV xs none (some (n : Int)) = xs.take n := by
  unfold cutV
  rw [HT.sIx_none, HT.sIx_nat, List.drop_zero, Nat.sub_zero]
  by_cases h : n ≤ xs.length
  · rw [Nat.min_eq_left h]
  · rw [Nat.min_eq_right (by omega), List.take_of_length_le (Nat.le_refl _), List.take_of_length_le (by omega)]
theorem sV_drop (W : List (List Nat)) (n : Nat) : (sV W).drop n = sV (W.drop n) := by
  unfold sV
  rw [List.map_drop]
theorem sV_take (W : List (List Nat)) (n : Nat) : (sV W).take n = sV (W.take n) := by
  unfold sV
  rw [List.map_take]
theorem lt_idx {w : List Nat} : ∀ {l : List (List Nat)} {j : Nat} {x : List Nat}, l[j]? = some x → j < l.idxOf w → x ≠ w
  | a :: r, j, x, h, hj => by
    rw [List.idxOf_cons] at hj
    cases e : (a == w) with
    | true =>
      rw [e] at hj
      exact absurd hj (Nat.not_lt_zero _)
    | false =>
      rw [e] at hj
      cases j with
      | zero =>
        cases h
        exact fun z => by rw [z] at e; simp at e
      | succ j =>
        exact lt_idx (l := r) (j := j) h (Nat.lt_of_succ_lt_succ hj)
def sp__law_parts (K : PySem.W.Frag) : Sp := fun vs H Q _ => ∃ (a : Addr) (W : List (List Nat)), vs = [.ref a] ∧ H a = some (.lst (sV W)) ∧ W.length ≤ 200 ∧ (∀ w ∈ W, w.length ≤ 150) ∧
  (((partsD W).f = none ∨ (partsD W).t = none ∨ (partsD W).n = none ∨ (partsD W).a = none) → ∀ H', Ex H H' → Q .non H') ∧
  (∀ f t n al, (partsD W).f = some f → (partsD W).t = some t → (partsD W).n = some n → (partsD W).a = some al → ∀ (p wa d pf pt pn pa : Addr) H', Ex H H' → H' p = some (.tup [.ref wa, .ref d]) → H' wa = some (.lst (sV (partsD W).ws)) → H' d = some (.dK (kvT [.ref pa, .ref pn, .ref pt, .ref pf])) → H' pf = some (.lst (natV f)) → H' pt = some (.lst (natV t)) → H' pn = some (.lst (natV n)) → H' pa = some (.lst (natV al)) → Q (.ref p) H')
theorem fb__law_parts {P : Program} {w : World} {K : PySem.W.Frag} {mg : Str → Option Value} {base : Heap} (T : Env K mg) : ∃ fd, FunD K "_law_parts" "_law_parts" (defArgs s__law_parts) (defBody s__law_parts) (defScope s__law_parts) [] [] (He.ga K "_law_parts") fd ∧ Fb P w K mg base 3 (He.ga K "_law_parts") fd ["_law_words"] (sp__law_parts K) := by
  obtain ⟨fd, F⟩ := T.f__law_parts
  refine ⟨fd, F, fb_of F sc__law_parts (fun vs H Q E h => ?_) (fun cdv A outer s H vs Q E hr h => ?_)⟩
  · obtain ⟨a, W, rfl, _⟩ := h
    rfl
  · obtain ⟨a, W, rfl, ha, wl, wb, qn, qs⟩ := h
    refine ⟨_, (pss_cons (ps_set (i := 1) sc__law_parts.nd rfl (Or.inl rfl) pe_dnewK)
      (pss_cons (ps_for (passes_of rfl) rfl (pi_reversed (by rfl) T.n_reversed (pa_cons (pe_lst (pa_cons pe_str (pa_cons pe_str (pa_cons pe_str (pa_cons pe_str pa_nil))))) pa_nil)) (pg_name (i := 2) sc__law_parts.nd rfl (Or.inl rfl))
      (pss_cons (ps_dput (hu_of hr.rm) (pv 1) (pv 2) (pe_lst pa_nil) rfl)
      (pss_one (ps_if (pt_cmpR op_in_seq (pv 2) (pv 0) (by rfl))
      (pss_cons (ps_set (i := 3) sc__law_parts.nd rfl (Or.inl rfl) (pe_bm PySem.F.plainAttrs_list PySem.F.slot_list_index PySem.F.type_list_index mt_index (pv 0) (pa_cons (pv 2) pa_nil)))
      (pss_cons (ps_dput (hu_of hr.rm) (pv 1) (pv 2) (c_call (ok__law_list T) (hr.mono (by decide)) T.g__law_list T.k__law_list takes0 (pa_cons (pe_slice sl_list (pv 0) (po_some (pe_op op_add (pv 3) pe_int)) po_none) pa_nil)) rfl)
      (pss_one (ps_set (i := 0) sc__law_parts.nd rfl (Or.inl rfl) (pe_slice sl_list (pv 0) po_none (po_some (pv 3)))))))
      pss_nil))))
      (pss_cons (ps_if (pt_cmpR (op_inD (room65 hr.rm)) pe_non (pe_lst (pa_cons (pe_dget (hu_of hr.rm) (pv 1) pe_str (fun _ _ => rfl)) (pa_cons (pe_dget (hu_of hr.rm) (pv 1) pe_str (fun _ _ => rfl)) (pa_cons (pe_dget (hu_of hr.rm) (pv 1) pe_str (fun _ _ => rfl)) (pa_cons (pe_dget (hu_of hr.rm) (pv 1) pe_str (fun _ _ => rfl)) pa_nil))))) (by rfl))
      (pss_one (ps_ret pe_non))
      pss_nil)
      (pss_one (ps_ret (pe_tup (pa_cons (pv 0) (pa_cons (pv 1) pa_nil)))))))), ?_⟩
    refine fun d nd => ?_
    have X0 := ex_new (o := .dK []) nd
    refine ⟨by show 4 ≤ sizeLine; decide, fun L nL => ?_⟩
    have X1 := X0.trans (ex_new (o := .lst [.str (Str.ofString "from"), .str (Str.ofString "to"), .str (Str.ofString "not"), .str (Str.ofString "also")]) nL)
    have hL : upd (upd H d (.dK [])) L (.lst [.str (Str.ofString "from"), .str (Str.ofString "to"), .str (Str.ofString "not"), .str (Str.ofString "also")]) L = some (.lst [.str (Str.ofString "from"), .str (Str.ofString "to"), .str (Str.ofString "not"), .str (Str.ofString "also")]) := upd_same
    have hd : upd (upd H d (.dK [])) L (.lst [.str (Str.ofString "from"), .str (Str.ofString "to"), .str (Str.ofString "not"), .str (Str.ofString "also")]) d = some (.dK []) := ex_new nL _ _ upd_same
    generalize upd (upd H d (.dK [])) L (.lst [.str (Str.ofString "from"), .str (Str.ofString "to"), .str (Str.ofString "not"), .str (Str.ofString "also")]) = H1 at X1 hL hd ⊢
    have Ld : L ≠ d := fun z => by rw [z, hd] at hL; cases hL
    have ad : a ≠ d := ne_of_none ha nd
    refine ⟨L, _, rfl, sq_lst hL, for_it L2.walk_rev (fun i σ H' => Oth d H1 H' ∧ ∃ (wa : Addr) (xs : List V) (v2 v3 : Option V), σ = [some (.ref wa), some (.ref d), v2, v3] ∧ wa ≠ d ∧ H' wa = some (.lst (sV (wsAt W i))) ∧ H' d = some (.dK (kvT xs)) ∧ xs.length = i ∧ ∀ j x, xs[j]? = some x → optL H' d x (osAt W j)) ⟨Oth.refl _ _, a, [], _, _, rfl, ad, X1 _ _ ha, hd, rfl, fun j x h => by cases h⟩ (fun i σ H' _ p => sq_lst (p.1 _ _ Ld hL)) ?_ ?_⟩
    · rintro i x σ H2' H2 hi ⟨O2, wa, xs, v2, v3, rfl, wd, hwa, hd2, lx, hx⟩ ⟨rfl, g⟩
      have hi4 : i < 4 := hi
      obtain rfl : x = .str (SX.S (tg i)) := by
        match i, hi4 with
        | 0, _ => exact (Option.some.inj g).symm
        | 1, _ => exact (Option.some.inj g).symm
        | 2, _ => exact (Option.some.inj g).symm
        | 3, _ => exact (Option.some.inj g).symm
      refine ⟨by show 0 ≤ sizeLine; decide, fun e ne => ?_⟩
      have X3 := ex_new (o := .lst []) ne
      have ed : e ≠ d := fun z => by rw [z, hd2] at ne; cases ne
      refine ⟨_, rfl, _, rfl, d, _, rfl, .k (k := keyT (tg i)) (X3 _ _ hd2) (Nat.lt_of_le_of_lt (kvT_len xs) (by decide)), ?_⟩
      rw [kvT_put hi4 lx]
      have O3 := O2.trans (ex_oth X3)
      have O4 := O3.upd (o := .dK (kvT (xs ++ [.ref e])))
      have hwa4 : upd (upd H2 e (.lst [])) d (.dK (kvT (xs ++ [.ref e]))) wa = some (.lst (sV (wsAt W i))) := by rw [upd_ne wd]; exact X3 _ _ hwa
      have he4 : upd (upd H2 e (.lst [])) d (.dK (kvT (xs ++ [.ref e]))) e = some (.lst []) := by rw [upd_ne ed]; exact upd_same
      have hd4 : upd (upd H2 e (.lst [])) d (.dK (kvT (xs ++ [.ref e]))) d = some (.dK (kvT (xs ++ [.ref e]))) := upd_same
      have O24 : Oth d H2 (upd (upd H2 e (.lst [])) d (.dK (kvT (xs ++ [.ref e])))) := (ex_oth X3).upd
      have hx4 := fun j x (h : xs[j]? = some x) => (hx j x h).oth O24
      generalize upd (upd H2 e (.lst [])) d (.dK (kvT (xs ++ [.ref e]))) = H4 at O4 hwa4 he4 hd4 hx4 ⊢
      clear hx
      refine ⟨_, rfl, _, rfl, wa, _, rfl, .inl (sq_lst hwa4), rfl, flat_sV _, _, rfl, ?_⟩
      rw [show (if false = true then !inV (.str (SX.S (tg i))) (sV (wsAt W i)) else inV (.str (SX.S (tg i))) (sV (wsAt W i))) = decide (tg i ∈ wsAt W i) from inV_sV _ _]
      have more : ∀ {H' : Hp} (v : V), (∀ j x, xs[j]? = some x → optL H' d x (osAt W j)) → optL H' d v (osAt W i) → ∀ j x, (xs ++ [v])[j]? = some x → optL H' d x (osAt W j) := fun {H'} v h1 h2 j x hj => by
        by_cases c : j < xs.length
        · rw [List.getElem?_append_left c] at hj
          exact h1 j x hj
        · have hl := (List.getElem?_eq_some_iff.mp hj).1
          rw [List.length_append] at hl
          have e1 : j = xs.length := by
            have : j < xs.length + 1 := hl
            omega
          rw [List.getElem?_append_right (by omega), e1, Nat.sub_self] at hj
          obtain rfl := Option.some.inj hj
          rw [e1, lx]
          exact h2
      by_cases hm : tg i ∈ wsAt W i
      · have c1 : wsAt W (i + 1) = (wsAt W i).take ((wsAt W i).idxOf (tg i)) := by
          show (cutW (tg i) (wsAt W i)).1 = _
          unfold cutW
          rw [if_pos hm]
        have c2 : osAt W i = numL? ((wsAt W i).drop ((wsAt W i).idxOf (tg i) + 1)) := by
          unfold osAt cutW
          rw [if_pos hm]
        obtain ⟨u1, u2⟩ := wsAt_sub W i
        rw [decide_eq_true hm]
        refine iteT ?_
        have il : (wsAt W i).idxOf (tg i) < (wsAt W i).length := List.idxOf_lt_length_of_mem hm
        have gj : (sV (wsAt W i))[(wsAt W i).idxOf (tg i)]? = some (.str (SX.S (tg i))) := by
          unfold sV
          rw [List.getElem?_map, List.getElem?_eq_getElem il, List.getElem_idxOf il]
          rfl
        refine ⟨_, rfl, .inl ⟨rfl, _, sq_lst hwa4⟩, _, rfl, wa, sV (wsAt W i), _, (wsAt W i).idxOf (tg i), .str (SX.S (tg i)), rfl, rfl, sq_lst hwa4, rfl, flat_sV _, gj, ?_, fun m z hm' hz => ?_, ?_⟩
        · show (SX.S (tg i) == SX.S (tg i)) = true
          rw [SX.S_beq_eq, decide_eq_true rfl]
        · unfold sV at hz
          rw [List.getElem?_map] at hz
          obtain ⟨w', hw', rfl⟩ := Option.map_eq_some_iff.mp hz
          show (SX.S w' == SX.S (tg i)) = false
          rw [SX.S_beq_eq]
          refine decide_eq_false fun z => ?_
          subst z
          exact lt_idx hw' hm' rfl
        generalize hj : (wsAt W i).idxOf (tg i) = j at il gj c1 c2
        refine ⟨_, rfl, _, rfl, _, _, rfl, rfl, _, rfl, wa, _, rfl, sq_lst hwa4, fun l nl => ?_⟩
        rw [show ((j : Int) + 1) = ((j + 1 : Nat) : Int) by omega, cut_dropV, sV_drop]
        have X5 := ex_new (o := .lst (sV ((wsAt W i).drop (j + 1)))) nl
        have fin : ∀ (v : V) (H6 : Hp), Ex H4 H6 → optL H6 d v (osAt W i) → (sDPut (tVar 1) (tVar 2) (fun _ H' Q' => Q' v H')) { nx := tAsg (tSl (rSlL K) (tVar 0) tNoPart (tPart (tVar 3))) (gName 0) { nx := fun σ H' => Oth d H1 H' ∧ ∃ (wa : Addr) (xs : List V) (v2 v3 : Option V), σ = [some (.ref wa), some (.ref d), v2, v3] ∧ wa ≠ d ∧ H' wa = some (.lst (sV (wsAt W (i + 1)))) ∧ H' d = some (.dK (kvT xs)) ∧ xs.length = i + 1 ∧ ∀ j x, xs[j]? = some x → optL H' d x (osAt W j), rt := Q }, rt := Q } [some (.ref wa), some (.ref d), some (.str (SX.S (tg i))), some (.int (j : Nat))] H6 := fun v H6 X6 ov => by
          refine ⟨_, rfl, _, rfl, d, _, rfl, .k (k := keyT (tg i)) (X6 _ _ hd4) (Nat.lt_of_le_of_lt (kvT_len _) (by decide)), ?_⟩
          rw [kvT_put2 hi4 lx]
          have O6 : Oth d H4 (upd H6 d (.dK (kvT (xs ++ [v])))) := (ex_oth X6).upd
          have O67 : Oth d H6 (upd H6 d (.dK (kvT (xs ++ [v])))) := (Oth.refl d H6).upd
          have hd7 : upd H6 d (.dK (kvT (xs ++ [v]))) d = some (.dK (kvT (xs ++ [v]))) := upd_same
          have ov7 := ov.oth O67
          generalize upd H6 d (.dK (kvT (xs ++ [v]))) = H7 at O6 hd7 ov7 O67 ⊢
          refine ⟨_, rfl, ?_⟩
          dsimp only [tNoPart]
          refine ⟨_, rfl, _, rfl, wa, _, rfl, sq_lst (O6 _ _ wd hwa4), fun l2 nl2 => ?_⟩
          rw [cut_takeV, sV_take]
          have X8 := ex_new (o := .lst (sV ((wsAt W i).take j))) nl2
          have l2d : l2 ≠ d := fun z => by rw [z, hd7] at nl2; cases nl2
          exact ⟨O4.trans (O6.trans (ex_oth X8)), l2, xs ++ [v], _, _, rfl, l2d, by rw [c1]; exact upd_same, X8 _ _ hd7, by rw [List.length_append, lx]; rfl, more _ (fun j x h => ((hx4 j x h).oth O6).oth (ex_oth X8)) (ov7.oth (ex_oth X8))⟩
        refine ⟨l, _, rfl, upd_same, by rw [List.length_drop]; omega, fun w hw => wb w (u2 w (List.mem_of_mem_drop hw)), fun hn H6 X6 => ?_, fun ns hn p H6 X6 hp => ?_⟩
        · exact fin .non H6 (X5.trans X6) (by rw [c2, hn]; rfl)
        · have pd : p ≠ d := fun z => by rw [z, (X5.trans X6) _ _ hd4] at hp; cases hp
          exact fin (.ref p) H6 (X5.trans X6) (by rw [c2, hn]; exact ⟨p, rfl, pd, hp⟩)
      · rw [decide_eq_false hm]
        have c1 : wsAt W (i + 1) = wsAt W i := by
          show (cutW (tg i) (wsAt W i)).1 = _
          unfold cutW
          rw [if_neg hm]
        have c2 : osAt W i = some [] := by
          unfold osAt cutW
          rw [if_neg hm]
        exact ⟨O4, wa, xs ++ [.ref e], _, _, rfl, wd, by rw [c1]; exact hwa4, hd4, by rw [List.length_append, lx]; rfl, more _ hx4 (by rw [c2]; exact ⟨e, rfl, ed, he4⟩)⟩
    · rintro σ H2 ⟨O2, wa, xs, v2, v3, rfl, wd, hwa, hd2, lx, hx⟩
      match xs, lx, hd2, hx with
      | [x0, x1, x2, x3], _, hd2, hx =>
        have o0 := hx 0 x0 rfl
        have o1 := hx 1 x1 rfl
        have o2 := hx 2 x2 rfl
        have o3 := hx 3 x3 rfl
        refine ⟨_, rfl, d, x3, rfl, .k (k := keyT wFrom) hd2, _, rfl, d, x2, rfl, .k (k := keyT wTo) hd2, _, rfl, d, x1, rfl, .k (k := keyT wNot) hd2, _, rfl, d, x0, rfl, .k (k := keyT wAlso) hd2, by show 4 ≤ sizeLine; decide, fun M nM => ?_⟩
        have X5 := ex_new (o := .lst [x3, x2, x1, x0]) nM
        have O5 : Oth d H2 _ := ex_oth X5
        refine ⟨.none, [od (osAt W 3), od (osAt W 2), od (osAt W 1), od (osAt W 0)], .non, .lst (sq_lst upd_same) (.cons (od_dp (o3.oth O5)) (.cons (od_dp (o2.oth O5)) (.cons (od_dp (o1.oth O5)) (.cons (od_dp (o0.oth O5)) .nil)))), rfl, od_shaped _ _ _ _, _, rfl, ?_⟩
        have ea : ([od (osAt W 3), od (osAt W 2), od (osAt W 1), od (osAt W 0)].any fun z => PyData.eqv z .none) = ((osAt W 3).isNone || ((osAt W 2).isNone || ((osAt W 1).isNone || ((osAt W 0).isNone || false)))) := by
          rw [← od_eqv, ← od_eqv, ← od_eqv, ← od_eqv]
          rfl
        rw [ea]
        have XE : Ex H (upd H2 M (.lst [x3, x2, x1, x0])) := (Oth.ex X1 nd O2).trans X5
        cases h3 : osAt W 3 with
        | none => exact qn (.inl h3) _ XE
        | some f =>
          cases h2 : osAt W 2 with
          | none => exact qn (.inr (.inl h2)) _ XE
          | some t =>
            cases h1 : osAt W 1 with
            | none => exact qn (.inr (.inr (.inl h1))) _ XE
            | some n =>
              cases h0 : osAt W 0 with
              | none => exact qn (.inr (.inr (.inr h0))) _ XE
              | some al =>
                refine iteF ?_
                rw [h3] at o3
                rw [h2] at o2
                rw [h1] at o1
                rw [h0] at o0
                obtain ⟨p3, rfl, _, g3⟩ := o3
                obtain ⟨p2, rfl, _, g2⟩ := o2
                obtain ⟨p1, rfl, _, g1⟩ := o1
                obtain ⟨p0, rfl, _, g0⟩ := o0
                refine ⟨_, rfl, _, rfl, by show 2 ≤ sizeLine; decide, fun p np => ?_⟩
                have X6 := X5.trans (ex_new (o := .tup [.ref wa, .ref d]) np)
                exact qs f t n al h3 h2 h1 h0 p wa d p3 p2 p1 p0 _ ((Oth.ex X1 nd O2).trans X6) upd_same (X6 _ _ hwa) (X6 _ _ hd2) (X6 _ _ g3) (X6 _ _ g2) (X6 _ _ g1) (X6 _ _ g0)

theorem ok__law_parts {P : Program} {w : World} {K : PySem.W.Frag} {mg : Str → Option Value} {base : Heap} (T : Env K mg) : Fc P w K mg base 3 (He.ga K "_law_parts") [] (sp__law_parts K) := by
  obtain ⟨fd, D, F⟩ := fb__law_parts T
  exact F.all (D.bindsN fun _ _ _ _ _ _ us hl => match us, hl with | [_], _ => rfl)
end
section
def readV (H : Hp) (x : V) (l : List Nat) (o : Option DaysD) : Prop := match o with
  | none => x = .non
  | some D => ∃ p po pa, x = .ref p ∧ H p = some (.tup [.str (SX.S D.bits), .int (D.since : Nat), optV D.till, .ref po, .ref pa, .str (SX.S l)]) ∧ H po = some (.tup (natV D.out)) ∧ H pa = some (.tup (natV D.also))
def sp__law_read (K : PySem.W.Frag) : Sp := fun vs H Q _ => ∃ l : List Nat, vs = [.str (SX.S l)] ∧ l.count 32 ≤ 199 ∧ nb l 150 ∧ l.length ≤ 4000 ∧ ∀ x H', Ex H H' → readV H' x l ((readD l).map canon) → Q x H'
theorem lread_none {W : List (List Nat)} (h : (partsD W).f = none ∨ (partsD W).t = none ∨ (partsD W).n = none ∨ (partsD W).a = none) : lread W = none := by
  unfold lread
  split
  · rename_i e
    rw [e] at h
    rcases h with h | h | h | h <;> cases h
  · rfl
theorem osAt_len {W : List (List Nat)} {i : Nat} {ns : List Nat} (h : osAt W i = some ns) : ns.length ≤ 8 := by
  have : cutW (tg i) (wsAt W i) = ((cutW (tg i) (wsAt W i)).1, some ns) := by
    rw [← h]
    rfl
  exact (cut_inv this).2.1
theorem parts_len {W u : List (List Nat)} {f t n a : List Nat} (h : partsD W = ⟨u, some f, some t, some n, some a⟩) : f.length ≤ 8 ∧ t.length ≤ 8 ∧ n.length ≤ 8 ∧ a.length ≤ 8 := by
  rw [parts_at] at h
  injection h with h0 h1 h2 h3 h4
  exact ⟨osAt_len h1, osAt_len h2, osAt_len h3, osAt_len h4⟩
theorem at0F (f : List Nat) : atI (natV f ++ [.int 0]) 0 = some (.int ((f.headD 0 : Nat) : Int)) := by
  cases f with
  | nil => exact atI_nat (j := 0) rfl
  | cons a r => exact atI_nat (j := 0) rfl
theorem at0T (t : List Nat) : atI (natV t ++ [.non]) 0 = some (optV t.head?) := by
  cases t with
  | nil => exact atI_nat (j := 0) rfl
  | cons a r => exact atI_nat (j := 0) rfl
theorem in01 (c : Nat) : decide (c ∈ (Str.ofString "01").cps.toList) = (c == 48 || c == 49) := by
  have e : (Str.ofString "01").cps.toList = [48, 49] := rfl
  rw [e]
  simp
  by_cases h : c = 48 <;> by_cases h2 : c = 49 <;> simp [h, h2]
theorem fb__law_read {P : Program} {w : World} {K : PySem.W.Frag} {mg : Str → Option Value} {base : Heap} (T : Env K mg) : ∃ fd, FunD K "_law_read" "_law_read" (defArgs s__law_read) (defBody s__law_read) (defScope s__law_read) [] [] (He.ga K "_law_read") fd ∧ Fb P w K mg base 4 (He.ga K "_law_read") fd ["_law_due"] (sp__law_read K) := by
  obtain ⟨fd, F⟩ := T.f__law_read
  refine ⟨fd, F, fb_of F sc__law_read (fun vs H Q E h => ?_) (fun cdv A outer s H vs Q E hr h => ?_)⟩
  · obtain ⟨l, rfl, _⟩ := h
    rfl
  · obtain ⟨l, rfl, hc, hnb, hll, q⟩ := h
    refine ⟨_, (pss_cons (ps_set (i := 1) sc__law_read.nd rfl (Or.inl rfl) (c_call (ok__law_parts T) (hr.mono (by decide)) T.g__law_parts T.k__law_parts takes0 (pa_cons (pe_split (pv 0) pe_str) pa_nil)))
      (pss_cons (ps_if (pt_cmpR op_isN (pv 1) pe_non (nomark _))
      (pss_one (ps_ret pe_non))
      pss_nil)
      (pss_cons (ps_asg (pv 1) (pg_tup (by rfl) (pgs_cons (pg_name (i := 2) sc__law_read.nd rfl (Or.inl rfl)) (pgs_cons (pg_name (i := 3) sc__law_read.nd rfl (Or.inr rfl)) pgs_nil))))
      (pss_cons (ps_par (i := 4) (j := 5) (by rfl) sc__law_read.nd rfl rfl (by decide) rfl rfl (pa_cons (pe_ix ix_list (pe_op op_cat (pe_dget (hu_of hr.rm) (pv 3) pe_str (fun _ _ => rfl)) (pe_lst (pa_cons pe_int pa_nil))) pe_int (fun _ _ => rfl)) (pa_cons (pe_ix ix_list (pe_op op_cat (pe_dget (hu_of hr.rm) (pv 3) pe_str (fun _ _ => rfl)) (pe_lst (pa_cons pe_non pa_nil))) pe_int (fun _ _ => rfl)) pa_nil)) (by rfl))
      (pss_cons (ps_if (PW.pt (pw_or (pt_cmpR op_ne (pe_callB call_len (by rfl) T.n_len (by decide +kernel) (pa_cons (pv 2) pa_nil)) pe_int (nomark _)) (pw_or (pt_not (pt_chain op_le op_le pe_int (pe_callB call_len (by rfl) T.n_len (by decide +kernel) (pa_cons (pe_ix ix_list (pv 2) pe_int (fun _ _ => rfl)) pa_nil)) pe_int)) (pw_or1 (pt_not (pt_val (pe_callB (cr_all rfl) (by rfl) T.n_all (by decide +kernel) (pa_cons (pe_lc (own := [("_law_sign", 6)]) (by rfl) sc__law_read.nd (pi_str (pe_ix ix_list (pv 2) pe_int (fun _ _ => rfl))) (blkOk_by (own := [("_law_sign", 6)]) (N := ["_law_due", "_law_parts_here", "_law_words", "_law_found", "_law_low", "_law_high", "_law_sign", "_law_spot"]) (sc := defScope s__law_read) (by decide +kernel)) (fun _ _ _ _ _ => (pg_name (i := 6) sc__law_read.nd rfl (Or.inl rfl))) (fun _ _ _ _ _ => pts_nil) (fun _ _ _ _ _ => (pe_cmpR op_in_sign (pv 6) pe_str (by rfl)))) pa_nil))))))))
      (pss_one (ps_ret pe_non))
      pss_nil)
      (pss_cons (ps_if (PW.pt (pw_or (pt_cmpR op_gt (pe_callB call_len (by rfl) T.n_len (by decide +kernel) (pa_cons (pe_dget (hu_of hr.rm) (pv 3) pe_str (fun _ _ => rfl)) pa_nil)) pe_int (nomark _)) (pw_or (pt_cmpR op_gt (pe_callB call_len (by rfl) T.n_len (by decide +kernel) (pa_cons (pe_dget (hu_of hr.rm) (pv 3) pe_str (fun _ _ => rfl)) pa_nil)) pe_int (nomark _)) (pw_or1 (pt_cmpR (op_eqD hr.rm.units) (pe_dget (hu_of hr.rm) (pv 3) pe_str (fun _ _ => rfl)) (pe_lst (pa_cons pe_int pa_nil)) (nomark _))))))
      (pss_one (ps_ret pe_non))
      pss_nil)
      (Evl.pss_cut (ps_if (PW.pt (pw_and (pt_cmpR op_notN (pv 5) pe_non (nomark _)) (pw_and1 (pt_cmpR op_lt (pv 5) (pv 4) (nomark _)))))
      (pss_one (ps_ret pe_non))
      pss_nil)
      (pss_cons (ps_if (pt_cmpR (op_neD hr.rm.units) (pe_lc (own := [("_law_spot", 7)]) (by rfl) sc__law_read.nd (pi_list (pe_dget (hu_of hr.rm) (pv 3) pe_str (fun _ _ => rfl))) (blkOk_by (own := [("_law_spot", 7)]) (N := ["_law_due", "_law_parts_here", "_law_words", "_law_found", "_law_low", "_law_high", "_law_sign", "_law_spot"]) (sc := defScope s__law_read) (by decide +kernel)) (fun _ _ _ _ _ => (pg_name (i := 7) sc__law_read.nd rfl (Or.inl rfl))) (fun _ _ _ _ _ => (pts_one (pt_cmpR (op_in_seqK K) (pv 7) (pe_dget (hu_of hr.rm) (pv 3) pe_str (fun _ _ => rfl)) (by rfl)))) (fun _ _ _ _ _ => (pv 7))) (pe_lst pa_nil) (nomark _))
      (pss_one (ps_ret pe_non))
      pss_nil)
      (pss_one (ps_ret (pe_tup (pa_cons (pe_ix ix_list (pv 2) pe_int (fun _ _ => rfl)) (pa_cons (pv 4) (pa_cons (pv 5) (pa_cons (pe_callTy call_tuple_of (by rfl) T.n_tuple (by decide +kernel) (pa_cons (pe_dget (hu_of hr.rm) (pv 3) pe_str (fun _ _ => rfl)) pa_nil)) (pa_cons (pe_callTy call_tuple_of (by rfl) T.n_tuple (by decide +kernel) (pa_cons (pe_dget (hu_of hr.rm) (pv 3) pe_str (fun _ _ => rfl)) pa_nil)) (pa_cons (pv 0) pa_nil))))))))))))))))), ?_⟩
    rw [← lread_readD] at q
    have wl := spl_cnt l
    have wbb := fun w hw => nb_word (w := w) hnb hw
    generalize hW : TL.spl [32] 0 [] l = W at wl wbb q
    refine ⟨_, rfl, ⟨_, rfl⟩, SX.S l, SX.S [32], rfl, rfl, rfl, sz_le (by rw [SX.S_len]; omega), fun ws nws => ?_⟩
    rw [SX.split_S (by decide) (by decide), hW, ← sV_str]
    have X1 := ex_new (o := .lst (sV W)) nws
    refine ⟨ws, W, rfl, upd_same, by omega, wbb, fun hn H2 X2 => ?_, fun f t n al hf ht hn ha p wa d pf pt pn pa H2 X2 hp hwa hd gf gt gn ga => ?_⟩
    · refine ⟨_, rfl, rfl, _, rfl, iteT ?_⟩
      refine q _ H2 (X1.trans X2) ?_
      rw [lread_none hn]
      rfl
    refine ⟨_, rfl, rfl, _, rfl, iteF ?_⟩
    refine ⟨_, rfl, p, _, rfl, sq_tup hp, rfl, _, _, rfl, _, _, rfl, rfl, ?_⟩
    have X02 := X1.trans X2
    have hP : partsD W = ⟨(partsD W).ws, some f, some t, some n, some al⟩ := by
      rw [← hf, ← ht, ← hn, ← ha]
    generalize hu : (partsD W).ws = u at hP hwa
    refine ⟨_, rfl, d, .ref pf, rfl, .k (k := keyT wFrom) hd, by show 1 ≤ sizeLine; decide, fun z1 nz1 => ?_⟩
    have Y1 := ex_new (o := .lst [.int 0]) nz1
    refine ⟨pf, z1, natV f, [.int 0], rfl, rfl, Y1 _ _ gf, upd_same, sz_le (by rw [natV_len]; show _ + 1 ≤ _; have := parts_len hP; omega), fun z2 nz2 => ?_⟩
    have Y2 := Y1.trans (ex_new (o := .lst (natV f ++ [.int 0])) nz2)
    refine ⟨z2, _, 0, .int (f.headD 0 : Nat), rfl, rfl, sq_lst upd_same, at0F f, ?_⟩
    refine ⟨_, rfl, d, .ref pt, rfl, .k (k := keyT wTo) (Y2 _ _ hd), by show 1 ≤ sizeLine; decide, fun z3 nz3 => ?_⟩
    have Y3 := Y2.trans (ex_new (o := .lst [.non]) nz3)
    refine ⟨pt, z3, natV t, [.non], rfl, rfl, Y3 _ _ gt, upd_same, sz_le (by rw [natV_len]; show _ + 1 ≤ _; have := parts_len hP; omega), fun z4 nz4 => ?_⟩
    have Y4 := Y3.trans (ex_new (o := .lst (natV t ++ [.non])) nz4)
    refine ⟨z4, _, 0, optV t.head?, rfl, rfl, sq_lst upd_same, at0T t, ?_⟩
    refine ⟨_, _, rfl, ?_⟩
    have hwa4 := Y4 _ _ hwa
    have hd4 := Y4 _ _ hd
    have gf4 := Y4 _ _ gf
    have gt4 := Y4 _ _ gt
    have gn4 := Y4 _ _ gn
    have ga4 := Y4 _ _ ga
    have X04 := X02.trans Y4
    generalize upd (upd (upd (upd H2 z1 (.lst [.int 0])) z2 (.lst (natV f ++ [.int 0]))) z3 (.lst [.non])) z4 (.lst (natV t ++ [.non])) = H4 at hwa4 hd4 gf4 gt4 gn4 ga4 X04 ⊢
    have fail : ∀ {H' : Hp}, Ex H4 H' → lread W = none → Q .non H' := fun {H'} X e => q _ H' (X04.trans X) (by rw [e]; rfl)
    refine ⟨_, rfl, _, _, rfl, .inl ⟨_, sq_lst hwa4, rfl⟩, rfl, _, rfl, ?_⟩
    rw [sV_len]
    by_cases c1 : u.length = 1
    · rw [decide_eq_true (show V.int ((u.length : Nat) : Int) = V.int 1 by rw [c1]; rfl)]
      refine iteF ?_
      obtain ⟨b, rfl⟩ := List.length_eq_one_iff.mp c1
      have hb : b.length ≤ 150 := wbb b (by
        have := (wsAt_sub W 4).2 b
        rw [parts_at] at hu
        exact this (by rw [show wsAt W 4 = [b] from hu]; exact List.mem_cons_self))
      have ls : (SX.S b).length ≤ sizeLine := Nat.le_of_lt (small_len (by rw [SX.S_len]; omega))
      have hbad : ¬ goodP b f t n al → lread W = none := fun h => by
        unfold lread
        rw [hP]
        dsimp only
        rw [if_neg h]
      refine ⟨_, rfl, wa, _, 0, _, rfl, rfl, sq_lst hwa4, rfl, _, b.length, rfl, ⟨ls, (SX.S_len b).symm⟩, _, _, rfl, rfl, _, rfl, ?_⟩
      by_cases h1 : 1 ≤ b.length
      · rw [decide_eq_true (show (1 : Int) ≤ (b.length : Nat) by omega)]
        refine iteT ?_
        refine ⟨_, _, rfl, rfl, _, rfl, ?_⟩
        by_cases h7 : b.length ≤ 7
        · rw [decide_eq_true (show ((b.length : Nat) : Int) ≤ 7 by omega)]
          refine iteF ?_
          refine ⟨_, rfl, wa, _, 0, _, rfl, rfl, sq_lst hwa4, rfl, _, rfl, fun A nA => lc_fm L2.walk_str (fun i => some (.bl (b.getD i 0 == 48 || b.getD i 0 == 49))) (fun H' => Ex H4 H') (fun H' z e => ex_mut e nA) (.refl _) (by show b.toArray.size ≤ 100000; simp; omega) (fun _ _ => trivial) (fun i x H5 H6 acc N hi e hD la y k => ?_) fun H5 X5 d5 => ?_⟩
          · obtain ⟨rfl, c, hc, rfl⟩ := y
            refine ⟨rfl, _, rfl, c, _, rfl, rfl, acc, hD, la, ?_⟩
            rw [in01]
            have e2 : b.getD i 0 = c := by
              have hc2 : b[i]? = some c := by simpa using hc
              rw [List.getD_eq_getElem?_getD, hc2]
              rfl
            have k2 := k H6 e hD
            rw [e2] at k2
            exact k2
          have d6 : H5 A = some (.lst ((b.map fun c => c == 48 || c == 49).map V.bl)) := by
            rw [d5]
            have e3 := range_map_get b 0 (fun c => V.bl (c == 48 || c == 49))
            have e4 : b.toArray.size = b.length := by simp
            show some (HO.lst (List.filterMap _ (List.range b.toArray.size))) = _
            rw [e4, e3, List.map_map]
            rfl
          refine ⟨A, b.map fun c => c == 48 || c == 49, rfl, sq_lst d6, ?_⟩
          have e5 : (b.map fun c => c == 48 || c == 49).all id = b.all fun c => c == 48 || c == 49 := by
            rw [List.all_map]
            rfl
          rw [e5]
          cases hs : (b.all fun c => c == 48 || c == 49) with
          | false =>
            refine ⟨false, rfl, ?_⟩
            exact fail X5 (hbad fun g => by
              have := g.1
              unfold sgn at this
              rw [hs, Bool.and_false] at this
              cases this)
          | true =>
            refine ⟨true, rfl, iteF ?_⟩
            have hsg : sgn b = true := by
              unfold sgn
              rw [hs, decide_eq_true ⟨h1, h7⟩]
              rfl
            clear d5 d6 hs e5
            have hd5 := X5 _ _ hd4
            have gf5 := X5 _ _ gf4
            have gt5 := X5 _ _ gt4
            have gn5 := X5 _ _ gn4
            have ga5 := X5 _ _ ga4
            have hwa5 := X5 _ _ hwa4
            obtain ⟨pl1, pl2, pl3, pl4⟩ := parts_len hP
            refine ⟨_, rfl, d, .ref pf, rfl, .k (k := keyT wFrom) hd5, _, _, rfl, .inl ⟨_, sq_lst gf5, rfl⟩, _, _, rfl, rfl, _, rfl, ?_⟩
            rw [natV_len]
            by_cases c2 : 1 < f.length
            · rw [decide_eq_true (show (1 : Int) < ((f.length : Nat) : Int) by omega)]
              exact fail X5 (hbad fun g => by have := g.2.1; omega)
            rw [decide_eq_false (show ¬ (1 : Int) < ((f.length : Nat) : Int) by omega)]
            refine iteF ?_
            refine ⟨_, rfl, d, .ref pt, rfl, .k (k := keyT wTo) hd5, _, _, rfl, .inl ⟨_, sq_lst gt5, rfl⟩, _, _, rfl, rfl, _, rfl, ?_⟩
            rw [natV_len]
            by_cases c3 : 1 < t.length
            · rw [decide_eq_true (show (1 : Int) < ((t.length : Nat) : Int) by omega)]
              exact fail X5 (hbad fun g => by have := g.2.2.1; omega)
            rw [decide_eq_false (show ¬ (1 : Int) < ((t.length : Nat) : Int) by omega)]
            refine iteF ?_
            refine ⟨_, rfl, d, .ref pf, rfl, .k (k := keyT wFrom) hd5, by show 1 ≤ sizeLine; decide, fun y1 ny1 => ?_⟩
            have X6 := X5.trans (ex_new (o := .lst [.int 0]) ny1)
            have Z6 := ex_new (o := .lst [.int 0]) ny1
            refine ⟨.list (natD f), .list (natD [0]), .lst (sq_lst (Z6 _ _ gf5)) (dp_nat K _ f), .lst (sq_lst upd_same) (dp_nat K _ [0]), shapedL_nat f, rfl, _, rfl, ?_⟩
            rw [show PyData.eqv (.list (natD f)) (.list (natD [0])) = decide (f = [0]) from eqv_natD _ _]
            generalize upd H5 y1 (.lst [.int 0]) = H6 at X6 Z6 ⊢
            by_cases c4 : f = [0]
            · rw [decide_eq_true c4]
              exact fail X6 (hbad fun g => g.2.2.2.1 c4)
            rw [decide_eq_false c4]
            refine iteF ?_
            refine ⟨fun σ' H' => H' = H6 ∧ tillOk (f.headD 0) t.head? = true ∧ σ' = [some (.str (SX.S l)), some (.ref p), some (.ref wa), some (.ref d), some (.int (f.headD 0 : Nat)), some (optV t.head?), none, none], ?_, ?_⟩
            · refine ⟨_, rfl, rfl, _, rfl, ?_⟩
              cases ht2 : t.head? with
              | none => exact ⟨rfl, rfl, rfl⟩
              | some v =>
                refine iteT ?_
                refine ⟨_, rfl, _, rfl, _, _, rfl, rfl, _, rfl, ?_⟩
                by_cases c5 : v < f.headD 0
                · rw [decide_eq_true (show ((v : Nat) : Int) < ((f.headD 0 : Nat) : Int) by omega)]
                  exact fail X6 (hbad fun g => by
                    have := g.2.2.2.2.1
                    rw [ht2] at this
                    have := of_decide_eq_true this
                    omega)
                · rw [decide_eq_false (show ¬ ((v : Nat) : Int) < ((f.headD 0 : Nat) : Int) by omega)]
                  exact ⟨rfl, decide_eq_true (by omega), rfl⟩
            rintro σ' H7 ⟨rfl, c5, rfl⟩
            have hd6 := Z6 _ _ hd5
            have gn6 := Z6 _ _ gn5
            have ga6 := Z6 _ _ ga5
            have hwa6 := Z6 _ _ hwa5
            refine ⟨_, rfl, d, .ref pa, rfl, .k (k := keyT wAlso) hd6, pa, rfl, ⟨_, sq_lst ga6⟩, fun A2 nA2 => lc_on al (fun n : Nat => V.int n) L2.walk_list (fun x => if decide (x ∈ n) = true then some (.int (x : Nat)) else none) (fun H' => Ex H7 H') (fun H' z e => ex_mut e nA2) (.refl _) (by omega) (fun H' e => sq_lst (e _ _ ga6)) (fun i x H8 acc N hx X8 hA la k => ?_) fun H8 X8 d8 => ?_⟩
            · have kk := k H8 X8 hA
              refine ⟨rfl, _, rfl, _, rfl, d, .ref pn, rfl, .k (k := keyT wNot) (X8 _ _ hd6), pn, _, rfl, .inl (sq_lst (X8 _ _ gn6)), rfl, flat_nat _, _, rfl, ?_⟩
              rw [show (if false = true then !inV (.int (x : Nat)) (natV n) else inV (.int (x : Nat)) (natV n)) = decide (x ∈ n) from inV_nat x n]
              cases c6 : decide (x ∈ n) with
              | true =>
                rw [c6] at kk
                exact ⟨_, rfl, acc, hA, la, kk⟩
              | false =>
                rw [c6] at kk
                exact kk
            have ef : al.filterMap (fun x => if decide (x ∈ n) = true then some (V.int (x : Nat)) else none) = natV (al.filter fun x => decide (x ∈ n)) := by
              unfold natV
              rw [← List.filterMap_eq_map, List.filterMap_filter]
              refine congrArg (fun f => al.filterMap f) (funext fun x => ?_)
              cases c : decide (x ∈ n) <;> simp
            rw [ef] at d8
            refine ⟨by show 0 ≤ sizeLine; decide, fun y2 ny2 => ?_⟩
            have Z8 := ex_new (o := .lst []) ny2
            refine ⟨.list (natD (al.filter fun x => decide (x ∈ n))), .list (natD []), .lst (sq_lst (Z8 _ _ d8)) (dp_nat K _ _), .lst (sq_lst upd_same) .nil, shapedL_nat _, rfl, _, rfl, ?_⟩
            rw [show PyData.eqv (.list (natD (al.filter fun x => decide (x ∈ n)))) (.list (natD [])) = decide ((al.filter fun x => decide (x ∈ n)) = []) from eqv_natD _ _]
            have X9 := X6.trans (X8.trans Z8)
            have Z9 := X8.trans Z8
            generalize upd H8 y2 (.lst []) = H9 at X9 Z9 ⊢
            by_cases c6 : (al.filter fun x => decide (x ∈ n)) = []
            · rw [decide_eq_true c6]
              refine iteF ?_
              have hdj : ∀ x ∈ al, x ∉ n := fun x hx hn => by
                have := List.filter_eq_nil_iff.mp c6 x hx
                exact this (decide_eq_true hn)
              refine ⟨_, rfl, wa, _, 0, _, rfl, rfl, sq_lst (Z9 _ _ hwa6), rfl, _, rfl, _, rfl, _, rfl, d, .ref pn, rfl, .k (k := keyT wNot) (Z9 _ _ hd6), pn, _, rfl, .inl ⟨sq_lst (Z9 _ _ gn6), fun p1 np1 => ?_⟩⟩
              have X10 := ex_new (o := .tup (natV n)) np1
              refine ⟨_, rfl, d, .ref pa, rfl, .k (k := keyT wAlso) (X10 _ _ (Z9 _ _ hd6)), pa, _, rfl, .inl ⟨sq_lst (X10 _ _ (Z9 _ _ ga6)), fun p2 np2 => ?_⟩⟩
              have X11 := ex_new (o := .tup (natV al)) np2
              refine ⟨_, rfl, by show 6 ≤ sizeLine; decide, fun pp npp => ?_⟩
              have X12 := ex_new (o := .tup [.str (SX.S b), .int (f.headD 0 : Nat), optV t.head?, .ref p1, .ref p2, .str (SX.S l)]) npp
              refine q _ _ (X04.trans (X9.trans (X10.trans (X11.trans X12)))) ?_
              have el : lread W = some ⟨b, f.headD 0, t.head?, n, al⟩ := by
                unfold lread
                rw [hP]
                dsimp only
                rw [if_pos ⟨hsg, by omega, by omega, c4, c5, hdj⟩]
              rw [el]
              exact ⟨pp, p1, p2, rfl, upd_same, (X11.trans X12) _ _ upd_same, X12 _ _ upd_same⟩
            · rw [decide_eq_false c6]
              refine iteT ?_
              refine fail X9 (hbad fun g => c6 (List.filter_eq_nil_iff.mpr fun x hx => ?_))
              have := g.2.2.2.2.2 x hx
              simpa using this
        · rw [decide_eq_false (show ¬ ((b.length : Nat) : Int) ≤ 7 by omega)]
          exact fail (.refl _) (hbad fun g => h7 (of_decide_eq_true (Bool.and_eq_true_iff.mp g.1).1 : 1 ≤ b.length ∧ b.length ≤ 7).2)
      · rw [decide_eq_false (show ¬ (1 : Int) ≤ (b.length : Nat) by omega)]
        exact iteF ⟨false, rfl, fail (.refl _) (hbad fun g => h1 (of_decide_eq_true (Bool.and_eq_true_iff.mp g.1).1 : 1 ≤ b.length ∧ b.length ≤ 7).1)⟩
    · rw [decide_eq_false (show ¬ V.int ((u.length : Nat) : Int) = V.int 1 from fun z => by injection z with z; omega)]
      refine iteT ?_
      refine fail (.refl _) ?_
      unfold lread
      rw [hP]
      split
      · rename_i e
        injection e with e
        rw [e] at c1
        exact absurd rfl c1
      · rfl

theorem ok__law_read {P : Program} {w : World} {K : PySem.W.Frag} {mg : Str → Option Value} {base : Heap} (T : Env K mg) : Fc P w K mg base 4 (He.ga K "_law_read") [] (sp__law_read K) := by
  obtain ⟨fd, D, F⟩ := fb__law_read T
  exact F.all (D.bindsN fun _ _ _ _ _ _ us hl => match us, hl with | [_], _ => rfl)
end
section
theorem dtxt_ok {D : DaysD} (hD : D.ok) : (dtxt D).all okC = true := joinL_all (by decide) (dwords_all (fun c h1 h2 => by
  unfold okC
  rw [decide_eq_true (show 32 ≤ c by omega), decide_eq_true (show c ≤ 126 by omega), decide_eq_true (show c ≠ 39 by omega), decide_eq_true (show c ≠ 92 by omega)]
  rfl) (fun c h1 h2 => by
  unfold okC
  rw [decide_eq_true (show 32 ≤ c by omega), decide_eq_true (show c ≤ 126 by omega), decide_eq_true (show c ≠ 39 by omega), decide_eq_true (show c ≠ 92 by omega)]
  rfl) hD)
theorem dtxt_len {D : DaysD} (hD : D.ok) (hF : D.fit 150) : (dtxt D).length ≤ 3500 := by
  have h := joinL_len (wlen (by decide) hD hF).1
  have h2 := (wlen (by decide) hD hF).2
  unfold dtxt
  omega

end
section
def toldV (H : Hp) (x : V) (l : List Nat) (o : Option DaysD) : Prop := match o with
  | none => ∃ p, x = .ref p ∧ H p = some (.lst [.str "refused", .bl true, .bl false])
  | some D => ∃ p po pa, x = .ref p ∧ H p = some (.tup [.str (SX.S D.bits), .int (D.since : Nat), optV D.till, .ref po, .ref pa, .str (SX.S l)]) ∧ H po = some (.tup (natV D.out)) ∧ H pa = some (.tup (natV D.also))
/-- what is handed in: a text, or none -/
def ThingT (K : PySem.W.Frag) (H : Hp) (x : V) (l : List Nat) : Prop := (x = .str (SX.S l) ∧ l.count 32 ≤ 199 ∧ nb l 150 ∧ l.length ≤ 4000) ∨ (readD l = none ∧ ∃ t, TyX K H x t ∧ PySem.W.kitOne K t (.type "str") = some false)
theorem readD_fit {l : List Nat} {D : DaysD} (hD : readD l = some D) (hw : ∀ w ∈ TL.spl [32] 0 [] l, w.length ≤ 150) : D.fit 150 := by
  unfold readD at hD
  split at hD
  · rename_i D' e2
    split at hD
    · cases hD
      exact (daysOf_ok hw e2).2
    · cases hD
  · cases hD
theorem canon_fit {D : DaysD} {k : Nat} (h : D.fit k) : (canon D).fit k := by
  obtain ⟨f1, f2, f3, f4⟩ := h
  exact ⟨f1, f2, fun n hn => f3 n ((srtN_mem n _).mp hn), fun n hn => f4 n ((srtN_mem n _).mp hn)⟩
def toldD (l : List Nat) (o : Option DaysD) : PyData := match o with
  | none => .list [.str "refused", .bool true, .bool false]
  | some D => .tuple [.str (SX.S D.bits), .int (D.since : Nat), optD D.till, .tuple (natD D.out), .tuple (natD D.also), .str (SX.S l)]
theorem okT_S {l : List Nat} (h : l.all (fun c => decide (c < 16 ^ 8)) = true) : okT (SX.S l) = true := h
theorem rr_told {K : PySem.W.Frag} {H : Hp} {x : V} {l : List Nat} {o : Option DaysD} {Q : VK} (h : toldV H x l o) (ho : ∀ D, o = some D → D.ok ∧ D.fit 150 ∧ dtxt D = l) (k : Q (.str (PyData.shown (toldD l o))) H) : rRepr K [x] H Q := by
  cases o with
  | none =>
    obtain ⟨p, rfl, e⟩ := h
    refine rr_data (.lst (sq_lst e) (.cons (.str _) (.cons (.bl _) (.cons (.bl _) .nil)))) ?_ ?_ ?_ k
    · decide +kernel
    · decide +kernel
    · decide +kernel
  | some D =>
    obtain ⟨hD, hF, rfl⟩ := ho D rfl
    obtain ⟨p, po, pa, rfl, e, e1, e2⟩ := h
    obtain ⟨hs, ht, lo, la, no, na, hdj⟩ := id hD
    obtain ⟨f1, f2, f3, f4⟩ := id hF
    have ll := dtxt_len hD hF
    have h7 : 1 ≤ D.bits.length ∧ D.bits.length ≤ 7 := of_decide_eq_true (Bool.and_eq_true_iff.mp hs).1
    refine rr_data (.tup (sq_tup e) (.cons (.str _) (.cons (.int _) (.cons (dp_opt _) (.cons (.tup (sq_tup e1) (dp_nat K H _)) (.cons (.tup (sq_tup e2) (dp_nat K H _)) (.cons (.str _) .nil))))))) ?_ ?_ ?_ k
    · show (okT (SX.S D.bits) && (okI ((D.since : Nat) : Int) && (okD (optD D.till) && (okL (natD D.out) && (okL (natD D.also) && (okT (SX.S (dtxt D)) && true)))))) = true
      have b1 : okT (SX.S D.bits) = true := okT_S (by
        rw [List.all_eq_true]
        intro c hc
        have := List.all_eq_true.mp (Bool.and_eq_true_iff.mp hs).2 c hc
        simp only [Bool.or_eq_true, beq_iff_eq] at this
        exact decide_eq_true (by omega))
      have b2 : okT (SX.S (dtxt D)) = true := okT_S (joinL_all (by decide) (dwords_all (fun c h1 h2 => decide_eq_true (by omega)) (fun c h1 h2 => decide_eq_true (by omega)) hD))
      have b3 : okD (optD D.till) = true := by
        cases hT : D.till with
        | none => rfl
        | some u => exact okI_nat (f2 u hT) (by decide)
      rw [b1, b2, b3, okI_nat f1 (by decide), natD_ok (by decide) _ f3, natD_ok (by decide) _ f4]
      rfl
    · show (10 * (SX.S D.bits).length + 2) + 2 + (1921 + 2 + (szD (optD D.till) + 2 + ((szL (natD D.out) + 3) + 2 + ((szL (natD D.also) + 3) + 2 + ((10 * (SX.S (dtxt D)).length + 2) + 2 + 0))))) + 3 ≤ 16000000
      have b3 : szD (optD D.till) ≤ 1921 := by
        cases D.till with
        | none => decide
        | some u => exact Nat.le_refl _
      rw [natD_sz, natD_sz, SX.S_len, SX.S_len]
      omega
    · show max 0 (max 0 (max (PyData.depth (optD D.till)) (max (PyData.depthAll (natD D.out) + 1) (max (PyData.depthAll (natD D.also) + 1) (max 0 0))))) + 1 ≤ 60
      rw [natD_dep, natD_dep]
      have : PyData.depth (optD D.till) = 0 := by cases D.till <;> rfl
      rw [this]
      decide
def sp__law_told (K : PySem.W.Frag) : Sp := fun vs H Q _ => ∃ x l, vs = [x] ∧ ThingT K H x l ∧ ∀ y H', Ex H H' → toldV H' y l ((readD l).map canon) → Q y H'
theorem fb__law_told {P : Program} {w : World} {K : PySem.W.Frag} {mg : Str → Option Value} {base : Heap} (T : Env K mg) : ∃ fd, FunD K "_law_told" "_law_told" (defArgs s__law_told) (defBody s__law_told) (defScope s__law_told) [] [] (He.ga K "_law_told") fd ∧ Fb P w K mg base 9 (He.ga K "_law_told") fd ["_law_thing"] (sp__law_told K) := by
  obtain ⟨fd, F⟩ := T.f__law_told
  refine ⟨fd, F, fb_of F sc__law_told (fun vs H Q E h => ?_) (fun cdv A outer s H vs Q E hr h => ?_)⟩
  · obtain ⟨x, l, rfl, _⟩ := h
    rfl
  · obtain ⟨x, l, rfl, hT, q⟩ := h
    refine ⟨_, (pss_cons (ps_set (i := 1) sc__law_told.nd rfl (Or.inl rfl) pe_non)
      (pss_cons (ps_tryT (i := 3) rfl rfl sc__law_told.nd rfl rfl T.g_GoingError T.g_LackError T.g_BookError (fun W pn xe tk po => (pss_cons (ps_set (i := 2) sc__law_told.nd rfl (Or.inl rfl) (c_call (ok_read_days T) (hr.mono (by decide)) T.g_read_days T.k_read_days tk (pa_cons (pv 0) pa_nil)))
      (pss_cons (ps_set (i := 1) sc__law_told.nd rfl (Or.inl rfl) (pe_tup (pa_cons (pe_callTy (call_strO T.m_Ring_str (ok_Ring_str T) (hr.mono (by decide))) (by rfl) T.n_str (by decide +kernel) (pa_cons (pe_fldK K (pv 2) (by rfl)) pa_nil)) (pa_cons (pe_fldK K (pv 2) (by rfl)) (pa_cons (pe_fldK K (pv 2) (by rfl)) (pa_cons (pe_fldK K (pv 2) (by rfl)) (pa_cons (pe_fldK K (pv 2) (by rfl)) (pa_cons (pe_callTy (call_strO T.m_Days_str (ok_Days_str T) (hr.mono (by decide))) (by rfl) T.n_str (by decide +kernel) (pa_cons (pv 2) pa_nil)) pa_nil))))))))
      (pss_one (ps_if (pt_not (pt_val (pe_callB (call_isiK K) (by rfl) T.n_isinstance (by decide +kernel) (pa_cons (pe_fldK K (pv 2) (by rfl)) (pa_cons (pe_glob (v := .ref _) (by rfl) T.g_Ring rfl) pa_nil)))))
      (pss_one (ps_set (i := 1) sc__law_told.nd rfl (Or.inl rfl) pe_non))
      pss_nil))))) (fun a oe cls d pn hz hf => (pss_cons (ps_set (i := 4) sc__law_told.nd rfl (Or.inl rfl) (pe_callB (call_isAT hz hf) (by rfl) T.n_isinstance (by decide +kernel) (pa_cons (pv 3) (pa_cons (pe_tup (pa_cons (pe_glob (v := .ref _) (by rfl) T.g_NoCard rfl) (pa_cons (pe_glob (v := .ref _) (by rfl) T.g_NoName rfl) (pa_cons (pe_glob (v := .ref _) (by rfl) T.g_NoPiece rfl) (pa_cons (pe_glob (v := .ref _) (by rfl) T.g_NoRow rfl) (pa_cons (pe_glob (v := .ref _) (by rfl) T.g_NoText rfl) (pa_cons (pe_glob (v := .ref _) (by rfl) T.g_NoTime rfl) (pa_cons (pe_glob (v := .ref _) (by rfl) T.g_LackError rfl) (pa_cons (pe_glob (v := .ref _) (by rfl) T.g_BookError rfl) pa_nil))))))))) pa_nil))))
      (pss_cons (ps_set (i := 5) sc__law_told.nd rfl (Or.inl rfl) (pe_and (pe_callB (call_isA hz hf) (by rfl) T.n_isinstance (by decide +kernel) (pa_cons (pv 3) (pa_cons (pe_glob (v := .ref _) (by rfl) T.g_NoDays rfl) pa_nil))) (pe_and (pe_callB (call_isA hz hf) (by rfl) T.n_isinstance (by decide +kernel) (pa_cons (pv 3) (pa_cons (pe_glob (v := .ref _) (by rfl) T.g_GoingError rfl) pa_nil))) (pe_one (pe_callB (call_isA hz hf) (by rfl) T.n_isinstance (by decide +kernel) (pa_cons (pv 3) (pa_cons (pe_bltn (v := .ty "ValueError") (by rfl) T.n_ValueError (by decide +kernel) rfl) pa_nil)))))))
      (pss_one (ps_set (i := 1) sc__law_told.nd rfl (Or.inl rfl) (pe_lst (pa_cons pe_str (pa_cons (pv 5) (pa_cons (pv 4) pa_nil))))))))))
      (pss_one (ps_ret (pv 1))))), ?_⟩
    rcases hT with ⟨rfl, hc, hnb, hl⟩ | ⟨hn, t, ty, kt⟩
    · refine ⟨_, rfl, _, rfl, .inl ⟨l, rfl, hl, fun w hw => nb_word hnb hw, fun D hD a H1 X1 na hA => ?_, fun hn H1 X1 => ?_⟩⟩
      · obtain ⟨okD, e⟩ := readD_some hD
        have fitD := readD_fit hD fun w hw => nb_word hnb hw
        obtain ⟨dx, r, po, pa, h1, ⟨dr, h2⟩, h3, h4⟩ := id hA
        refine ⟨_, rfl, a, _, dx, _, _, rfl, h1, T.c_Days, T.a_Days_ring, rfl, r, dr, _, rfl, h2, r, D.bits, rfl, ⟨dr, h2⟩, trivial, ?_⟩
        refine ⟨_, rfl, a, _, dx, _, _, rfl, h1, T.c_Days, T.a_Days_since, rfl, _, rfl, a, _, dx, _, _, rfl, h1, T.c_Days, T.a_Days_till, rfl, _, rfl, a, _, dx, _, _, rfl, h1, T.c_Days, T.a_Days_out, rfl, _, rfl, a, _, dx, _, _, rfl, h1, T.c_Days, T.a_Days_also, rfl, ?_⟩
        refine ⟨_, rfl, a, dx, _, rfl, h1, a, D, rfl, hA, okD, fitD, fun H2 X2 => ⟨trivial, by show 6 ≤ sizeLine; decide, fun t nt => ?_⟩⟩
        rw [e]
        have X3 := ex_new (o := .tup [.str (SX.S D.bits), .int (D.since : Nat), optV D.till, .ref po, .ref pa, .str (SX.S l)]) nt
        have X23 := X2.trans X3
        refine ⟨_, rfl, a, _, dx, _, _, rfl, X23 _ _ h1, T.c_Days, T.a_Days_ring, rfl, .ref r, .ref (RingC K), _, _, true, rfl, .own _, ty_ins T.i_Ring T.c_Ring (X23 _ _ h2), T.kit_Ring_Ring, true, rfl, ?_⟩
        refine ⟨_, rfl, ?_⟩
        refine q _ _ (X1.trans X23) ?_
        rw [hD]
        exact ⟨t, po, pa, rfl, upd_same, X23 _ _ h3, X23 _ _ h4⟩
      · refine ⟨T.exm_NoDays, fun a na => ?_⟩
        refine ⟨_, rfl, by show 8 ≤ sizeLine; decide, fun tp np => ?_⟩
        refine ⟨_, tp, _, _, false, rfl, rfl, T.xc_NoDays, rfl, upd_same, .cons (.own _) (.cons (.own _) (.cons (.own _) (.cons (.own _) (.cons (.own _) (.cons (.own _) (.cons (.own _) (.cons (.own _) .nil))))))), ?_, ?_⟩
        · exact kitAny_cons T.kit_NoDays_NoCard (fun _ => kitAny_cons T.kit_NoDays_NoName (fun _ => kitAny_cons T.kit_NoDays_NoPiece (fun _ => kitAny_cons T.kit_NoDays_NoRow (fun _ => kitAny_cons T.kit_NoDays_NoText (fun _ => kitAny_cons T.kit_NoDays_NoTime (fun _ => kitAny_cons T.kit_NoDays_LackError (fun _ => kitAny_cons T.kit_NoDays_BookError (fun _ => kitAny_nil) (by decide)) (by decide)) (by decide)) (by decide)) (by decide)) (by decide)) (by decide)) (by decide)
        refine ⟨_, rfl, ⟨_, _, _, true, rfl, rfl, T.xc_NoDays, rfl, .own _, T.kit_NoDays_NoDays, true, rfl, ?_⟩⟩
        refine ⟨_, rfl, _, _, _, true, rfl, rfl, T.xc_NoDays, rfl, .own _, T.kit_NoDays_GoingError, true, rfl, ?_⟩
        refine ⟨_, rfl, _, _, _, true, rfl, rfl, T.xc_NoDays, rfl, .ty "ValueError", T.kit_NoDays_ValueError, ?_⟩
        refine ⟨_, rfl, _, rfl, by show 3 ≤ sizeLine; decide, fun t nt => ?_⟩
        refine ⟨_, rfl, ?_⟩
        refine q _ _ (X1.trans ((ex_new np).trans (ex_new nt))) ?_
        rw [hn]
        exact ⟨t, rfl, upd_same⟩
    · refine ⟨_, rfl, _, rfl, .inr ⟨t, ty, kt, ?_⟩⟩
      refine ⟨T.exm_NoDays, fun a na => ?_⟩
      refine ⟨_, rfl, by show 8 ≤ sizeLine; decide, fun tp np => ?_⟩
      refine ⟨_, tp, _, _, false, rfl, rfl, T.xc_NoDays, rfl, upd_same, .cons (.own _) (.cons (.own _) (.cons (.own _) (.cons (.own _) (.cons (.own _) (.cons (.own _) (.cons (.own _) (.cons (.own _) .nil))))))), ?_, ?_⟩
      · exact kitAny_cons T.kit_NoDays_NoCard (fun _ => kitAny_cons T.kit_NoDays_NoName (fun _ => kitAny_cons T.kit_NoDays_NoPiece (fun _ => kitAny_cons T.kit_NoDays_NoRow (fun _ => kitAny_cons T.kit_NoDays_NoText (fun _ => kitAny_cons T.kit_NoDays_NoTime (fun _ => kitAny_cons T.kit_NoDays_LackError (fun _ => kitAny_cons T.kit_NoDays_BookError (fun _ => kitAny_nil) (by decide)) (by decide)) (by decide)) (by decide)) (by decide)) (by decide)) (by decide)) (by decide)
      refine ⟨_, rfl, ⟨_, _, _, true, rfl, rfl, T.xc_NoDays, rfl, .own _, T.kit_NoDays_NoDays, true, rfl, ?_⟩⟩
      refine ⟨_, rfl, _, _, _, true, rfl, rfl, T.xc_NoDays, rfl, .own _, T.kit_NoDays_GoingError, true, rfl, ?_⟩
      refine ⟨_, rfl, _, _, _, true, rfl, rfl, T.xc_NoDays, rfl, .ty "ValueError", T.kit_NoDays_ValueError, ?_⟩
      refine ⟨_, rfl, _, rfl, by show 3 ≤ sizeLine; decide, fun t nt => ?_⟩
      refine ⟨_, rfl, ?_⟩
      refine q _ _ ((ex_new np).trans (ex_new nt)) ?_
      rw [hn]
      exact ⟨t, rfl, upd_same⟩

theorem ok__law_told {P : Program} {w : World} {K : PySem.W.Frag} {mg : Str → Option Value} {base : Heap} (T : Env K mg) : Fc P w K mg base 9 (He.ga K "_law_told") [] (sp__law_told K) := by
  obtain ⟨fd, D, F⟩ := fb__law_told T
  exact F.all (D.bindsN fun _ _ _ _ _ _ us hl => match us, hl with | [_], _ => rfl)
end
section
theorem toldV.mono {H H' : Hp} {x : V} {l : List Nat} {o : Option DaysD} (h : toldV H x l o) (e : Ex H H') : toldV H' x l o := by
  cases o with
  | none =>
    obtain ⟨p, h1, h2⟩ := h
    exact ⟨p, h1, e _ _ h2⟩
  | some D =>
    obtain ⟨p, po, pa, h0, h1, h2, h3⟩ := h
    exact ⟨p, po, pa, h0, e _ _ h1, e _ _ h2, e _ _ h3⟩
def sp__law_right (K : PySem.W.Frag) : Sp := fun vs H Q _ => ∃ x l, vs = [x] ∧ ThingT K H x l ∧ ∀ H', Ex H H' → Q (.bl true) H'
theorem fb__law_right {P : Program} {w : World} {K : PySem.W.Frag} {mg : Str → Option Value} {base : Heap} (T : Env K mg) : ∃ fd, FunD K "_law_right" "_law_right" (defArgs s__law_right) (defBody s__law_right) (defScope s__law_right) [] [] (He.ga K "_law_right") fd ∧ Fb P w K mg base 10 (He.ga K "_law_right") fd ["_law_thing"] (sp__law_right K) := by
  obtain ⟨fd, F⟩ := T.f__law_right
  refine ⟨fd, F, fb_of F sc__law_right (fun vs H Q E h => ?_) (fun cdv A outer s H vs Q E hr h => ?_)⟩
  · obtain ⟨x, l, rfl, _⟩ := h
    rfl
  · obtain ⟨x, l, rfl, hT, q⟩ := h
    refine ⟨_, (pss_cons (ps_set (i := 1) sc__law_right.nd rfl (Or.inl rfl) pe_non)
      (Evl.pss_cut (ps_if (pt_val (pe_callB call_isi (by rfl) T.n_isinstance (by decide +kernel) (pa_cons (pv 0) (pa_cons (pe_bltn (v := .ty "str") (by rfl) T.n_str (by decide +kernel) rfl) pa_nil))))
      (pss_one (ps_set (i := 1) sc__law_right.nd rfl (Or.inl rfl) (c_call (ok__law_read T) (hr.mono (by decide)) T.g__law_read T.k__law_read takes0 (pa_cons (pv 0) pa_nil))))
      pss_nil)
      (Evl.pss_cut (ps_if (pt_cmpR op_isN (pv 1) pe_non (nomark _))
      (pss_one (ps_set (i := 1) sc__law_right.nd rfl (Or.inl rfl) (pe_lst (pa_cons pe_str (pa_cons pe_bl (pa_cons pe_bl pa_nil))))))
      pss_nil)
      (pss_one (ps_ret (pe_cmpR op_eq (pe_callB (call_repr hr) (by rfl) T.n_repr (by decide +kernel) (pa_cons (c_call (ok__law_told T) (hr.mono (by decide)) T.g__law_told T.k__law_told takes0 (pa_cons (pv 0) pa_nil)) pa_nil)) (pe_callB (call_repr hr) (by rfl) T.n_repr (by decide +kernel) (pa_cons (pv 1) pa_nil)) (nomark _))))))), ?_⟩
    have ho : ∀ D, (readD l).map canon = some D → D.ok ∧ D.fit 150 ∧ dtxt D = l := fun D h => by
      obtain ⟨E', e1, e2⟩ := Option.map_eq_some_iff.mp h
      subst e2
      obtain ⟨okE, e3⟩ := readD_some e1
      refine ⟨canon_ok okE, canon_fit ?_, by rw [canon_txt]; exact e3⟩
      rcases hT with ⟨rfl, hc, hnb, hl⟩ | ⟨hn, _⟩
      · exact readD_fit e1 fun w hw => nb_word hnb hw
      · rw [hn] at e1
        cases e1
    refine ⟨fun σ' H' => Ex H H' ∧ ∃ y, readV H' y l ((readD l).map canon) ∧ σ' = [some x, some y], ?_, ?_⟩
    · rcases hT with ⟨rfl, hc, hnb, hl⟩ | ⟨hn, t, ty, kt⟩
      · refine ⟨_, rfl, .str (SX.S l), .ty "str", _, _, true, rfl, .ty "str", .base (.str _), kit_ty (by decide +kernel), true, rfl, iteT ?_⟩
        exact ⟨_, rfl, l, rfl, hc, hnb, hl, fun y H1 X1 hy => ⟨X1, y, hy, rfl⟩⟩
      · refine ⟨_, rfl, x, .ty "str", _, _, false, rfl, .ty "str", ty, kt, false, rfl, iteF ?_⟩
        exact ⟨.refl _, .non, by rw [hn]; rfl, rfl⟩
    rintro σ' H1 ⟨X1, y, hy, rfl⟩
    refine ⟨fun σ' H' => Ex H H' ∧ ∃ y, toldV H' y l ((readD l).map canon) ∧ σ' = [some x, some y], ?_, ?_⟩
    · refine ⟨_, rfl, rfl, _, rfl, ?_⟩
      cases hr2 : (readD l).map canon with
      | none =>
        rw [hr2] at hy
        cases (show y = .non from hy)
        refine iteT ?_
        refine ⟨by show 3 ≤ sizeLine; decide, fun p np => ?_⟩
        exact ⟨X1.trans (ex_new np), .ref p, ⟨p, rfl, upd_same⟩, rfl⟩
      | some D =>
        rw [hr2] at hy
        obtain ⟨p, po, pa, rfl, h1, h2, h3⟩ := hy
        exact ⟨X1, .ref p, ⟨p, po, pa, rfl, h1, h2, h3⟩, rfl⟩
    clear hy
    clear y
    rintro σ' H2 ⟨X2, y, hy, rfl⟩
    refine ⟨_, rfl, x, l, rfl, ?_, fun z H3 X3 hz => ?_⟩
    · rcases hT with h | ⟨hn, t, ty, kt⟩
      · exact .inl h
      · exact .inr ⟨hn, t, tyX_mono X2 ty, kt⟩
    refine rr_told hz ho ?_
    refine ⟨_, rfl, rr_told (hy.mono X3) ho ⟨rfl, ?_⟩⟩
    rw [decide_eq_true rfl]
    exact q _ (X2.trans X3)

theorem ok__law_right {P : Program} {w : World} {K : PySem.W.Frag} {mg : Str → Option Value} {base : Heap} (T : Env K mg) : Fc P w K mg base 10 (He.ga K "_law_right") [] (sp__law_right K) := by
  obtain ⟨fd, D, F⟩ := fb__law_right T
  exact F.all (D.bindsN fun _ _ _ _ _ _ us hl => match us, hl with | [_], _ => rfl)
end
section
theorem lt_fit21 {D : DaysD} (h : D.lt) : D.fit 21 := by
  obtain ⟨b1, b2, b3, b4⟩ := h
  have e : (10 : Nat) ^ 20 < 10 ^ 21 := by decide +kernel
  exact ⟨Nat.lt_trans b1 e, fun t ht => Nat.lt_trans (b2 t ht) e, b3, b4⟩
theorem pot_grow {H H' H'' : Hp} {p : Addr} (P : PotOn H H' p) (X : Ex H' H'') : PotOn H H'' p := by
  obtain ⟨⟨x, y, z, e, r⟩, k⟩ := P
  exact ⟨⟨x, y, z, X _ _ e, r⟩, fun b o hb ho => X _ _ (k b o hb ho)⟩
def kb (j : Nat) : Nat := if j = 0 then 21 else if j = 1 then 44 else 90
theorem kb_step {j : Nat} (h : j < 2) : 2 * kb j + 2 ≤ kb (j + 1) := by
  match j, h with
  | 0, _ => decide
  | 1, _ => decide
def TxtT (l : List Nat) : Prop := l.count 32 ≤ 199 ∧ nb l 150 ∧ l.length ≤ 4000
theorem txt_of {l : List Nat} {k n : Nat} (h : nb l k) (hc : l.count 32 ≤ n) (hk : k ≤ 150) (hn : n ≤ 199) (hl : (n + 1) * (k + 1) ≤ 4000) : TxtT l := ⟨by omega, nb_mono h hk, Nat.le_trans (nb_length h) (Nat.le_trans (Nat.mul_le_mul_right _ (by omega)) hl)⟩
theorem ThingT.mono {K : PySem.W.Frag} {H H' : Hp} {x : V} {l : List Nat} (h : ThingT K H x l) (e : Ex H H') : ThingT K H' x l := by
  rcases h with h | ⟨hn, t, ty, kt⟩
  · exact .inl h
  · exact .inr ⟨hn, t, tyX_mono e ty, kt⟩
def sp_law (K : PySem.W.Frag) : Sp := fun vs H Q _ => ∃ (a : Addr) (ns : List Int), vs = [.ref a] ∧ SqL K H a (ns.map V.int) ∧ ns.length ≤ 63 ∧ ∀ H', Q (.bl true) H'
theorem ok_law {P : Program} {w : World} {K : PySem.W.Frag} {mg : Str → Option Value} {base : Heap} (T : Env K mg) {fd : FuncData} (F : FunD K "law" "law" (defArgs s_law) (defBody s_law) (defScope s_law) [] [] (He.ga K "law") fd) : Fb P w K mg base 11 (He.ga K "law") fd ["_law_script"] (sp_law K) := by
  refine fb_of F sc_law (fun vs H Q E h => ?_) (fun cdv A outer s H vs Q E hr h => ?_)
  · obtain ⟨a, ns, rfl, _⟩ := h
    rfl
  · obtain ⟨a, ns, rfl, hS, hl, q⟩ := h
    refine ⟨_, (pss_cons (ps_for (passes_of rfl) rfl (pi_range1 (by rfl) T.n_range (pa_cons (pe_callB (call_max2 rfl) (by rfl) T.n_max (by decide +kernel) (pa_cons pe_int (pa_cons (pe_callB (call_min2 rfl) (by rfl) T.n_min (by decide +kernel) (pa_cons (pe_callB call_len (by rfl) T.n_len (by decide +kernel) (pa_cons (pv 0) pa_nil)) (pa_cons pe_int pa_nil))) pa_nil))) pa_nil)) (pg_name (i := 1) sc_law.nd rfl (Or.inl rfl))
      (pss_cons (ps_set (i := 2) sc_law.nd rfl (Or.inl rfl) (c_call (ok__law_pot T) (hr.mono (by decide)) T.g__law_pot T.k__law_pot takes0 (pa_cons (pv 0) (pa_cons (pv 1) pa_nil))))
      (pss_cons (ps_set (i := 3) sc_law.nd rfl (Or.inl rfl) (c_call (ok__law_take T) (hr.mono (by decide)) T.g__law_take T.k__law_take takes0 (pa_cons (pv 2) (pa_cons pe_int pa_nil))))
      (pss_cons (ps_set (i := 4) sc_law.nd rfl (Or.inl rfl) (c_call (ok__law_written T) (hr.mono (by decide)) T.g__law_written T.k__law_written takes0 (pa_cons (c_call (ok__law_some T) (hr.mono (by decide)) T.g__law_some T.k__law_some takes0 (pa_cons (pv 2) pa_nil)) pa_nil)))
      (pss_cons (ps_set (i := 5) sc_law.nd rfl (Or.inl rfl) (pv 4))
      (pss_cons (ps_for (passes_of rfl) rfl (pi_range1 (by rfl) T.n_range (pa_cons (pe_op op_add pe_int (pe_op op_mod (pv 3) pe_int)) pa_nil)) (pg_name (i := 6) sc_law.nd rfl (Or.inl rfl))
      (pss_one (ps_set (i := 5) sc_law.nd rfl (Or.inl rfl) (c_call (ok__law_spoilt T) (hr.mono (by decide)) T.g__law_spoilt T.k__law_spoilt takes0 (pa_cons (pv 2) (pa_cons (pv 5) pa_nil))))))
      (Evl.pss_cut (ps_if (pt_cmpR op_eq (pv 3) pe_int (nomark _))
      (pss_one (ps_set (i := 5) sc_law.nd rfl (Or.inl rfl) (c_call (ok__law_odd T) (hr.mono (by decide)) T.g__law_odd T.k__law_odd takes0 (pa_cons (pv 2) pa_nil))))
      pss_nil)
      (pss_cons (ps_set (i := 7) sc_law.nd rfl (Or.inl rfl) (pe_ix ix_list (pe_lst (pa_cons pe_non (pa_cons pe_int (pa_cons pe_bl (pa_cons (pe_lst (pa_cons (pv 4) pa_nil)) (pa_cons (pe_tup (pa_cons (pv 4) pa_nil)) (pa_cons pe_dnewK (pa_cons (pe_disp (pps_cons (pv 4) pe_int pps_nil) rfl rfl (by simp) (by decide)) (pa_cons pe_int (pa_cons (pe_lst pa_nil) (pa_cons (pe_tup pa_nil) pa_nil))))))))))) (c_call (ok__law_take T) (hr.mono (by decide)) T.g__law_take T.k__law_take takes0 (pa_cons (pv 2) (pa_cons pe_int pa_nil))) (fun _ _ => rfl)))
      (pss_one (ps_if (pt_not (pt_val (pe_callB (cr_all rfl) (by rfl) T.n_all (by decide +kernel) (pa_cons (pe_lc (own := [("_law_one", 8)]) (by rfl) sc_law.nd (pi_tup (pe_tup (pa_cons (pv 5) (pa_cons (pv 7) (pa_cons (pv 4) pa_nil))))) (blkOk_by (own := [("_law_one", 8)]) (N := ["_law_script", "_law_k", "_law_pot_here", "_law_way", "_law_good", "_law_thing", "_law_turn", "_law_odd_here", "_law_one"]) (sc := defScope s_law) (by decide +kernel)) (fun _ _ _ _ _ => (pg_name (i := 8) sc_law.nd rfl (Or.inl rfl))) (fun _ _ _ _ _ => pts_nil) (fun _ _ _ _ _ => (c_call (ok__law_right T) (hr.mono (by decide)) T.g__law_right T.k__law_right takes0 (pa_cons (pv 8) pa_nil)))) pa_nil))))
      (pss_one (ps_ret pe_bl))
      pss_nil))))))))))
      (pss_one (ps_ret pe_bl))), ?_⟩
    refine ⟨_, rfl, _, _, rfl, .inl ⟨_, hS, rfl⟩, _, _, rfl, _, _, rfl, _, rfl, (turns_lo 16 _ (by decide)), (turns_hi 16 _ (by decide)), for_range (fun i σ H' => Ex H H' ∧ ∃ v1 v2 v3 v4 v5 v6 v7 v8, σ = [some (.ref a), v1, v2, v3, v4, v5, v6, v7, v8]) ⟨.refl H, _, _, _, _, _, _, _, _, rfl⟩ ?_ ?_⟩
    · rintro i σ H1 hi ⟨X1, v1, v2, v3, v4, v5, v6, v7, v8, rfl⟩
      have i1 : i < 1000 := turns_lt 16 _ (by decide) hi
      refine ⟨_, rfl, _, rfl, a, ns, _, rfl, ex_sql X1 hS, by omega, by omega, fun p H2 np P2 K2 => ?_⟩
      have X2 : Ex H H2 := fun b o e => by rw [K2 b (ne_of_none (X1 b o e) np)]; exact X1 b o e
      have hp0 : H p = none := ex_fresh X1 np
      refine ⟨_, rfl, p, 5, rfl, P2, by decide, by decide, fun way H3 w0 w1 P3 => ?_⟩
      refine ⟨_, rfl, p, rfl, P3.1, fun t g m D H4 hSm hD hL _ _ _ tp gp mp P4 => ?_⟩
      have hF : D.fit 21 := lt_fit21 hL
      have P34 := P3.trans P4
      refine ⟨t, g, m, D, rfl, hSm, hD, hF, fun H5 X5 => ?_⟩
      have P5 : PotOn H2 H5 p := pot_grow P34 X5
      obtain ⟨dw, dn⟩ := wlen (k := 21) (by decide) hD hF
      have n0 : nb (dtxt D) 21 := nb_join fun w hw => nb_len (dw w hw)
      have c0 : (dtxt D).count 32 ≤ 23 := by
        have := (cnt_join (ws := dwords D) (no32 hD)).1
        unfold dtxt
        omega
      generalize dtxt D = G at n0 c0 ⊢
      refine ⟨_, rfl, ?_⟩
      have r2 : (1 + way % 2).toNat ≤ 2 := by omega
      refine ⟨_, rfl, _, _, rfl, rfl, by show (0 : Int) < 2; decide, _, _, rfl, rfl, _, rfl, by omega, by omega, for_range (fun j σ H' => PotOn H2 H' p ∧ ∃ (z : List Nat) (v6 : Option V), z.count 32 ≤ 23 + 2 * j ∧ nb z (kb j) ∧ σ = [some (.ref a), some (.int (0 + (i : Nat))), some (.ref p), some (.int way), some (.str (SX.S G)), some (.str (SX.S z)), v6, v7, v8]) ⟨P5, G, _, by omega, n0, rfl⟩ ?_ ?_⟩
      · rintro j σ H6 hj ⟨P6, z, v6, cz, nz, rfl⟩
        have hj2 : j < 2 := by omega
        refine ⟨_, rfl, _, rfl, p, z, kb j, rfl, P6.1, by omega, nz, by unfold kb; split <;> (try split) <;> omega, fun z2 H7 cz2 nz2 P7 => ?_⟩
        exact ⟨P6.trans P7, z2, _, by omega, nb_mono nz2 (kb_step hj2), rfl⟩
      rintro σ H6 ⟨P6, z, v6, cz, nz, rfl⟩
      have tz : TxtT z := txt_of (k := 90) (n := 27) (nb_mono nz (by unfold kb; split <;> (try split) <;> omega)) (by omega) (by decide) (by decide) (by decide)
      have tG : TxtT G := txt_of (k := 21) (n := 23) n0 c0 (by decide) (by decide) (by decide)
      refine ⟨fun σ' H' => PotOn H2 H' p ∧ ∃ z : List Nat, TxtT z ∧ σ' = [some (.ref a), some (.int (0 + (i : Nat))), some (.ref p), some (.int way), some (.str (SX.S G)), some (.str (SX.S z)), v6, v7, v8], ?_, ?_⟩
      · refine ⟨_, rfl, rfl, _, rfl, ite2 (fun _ => ?_) (fun _ => ?_)⟩
        · refine ⟨_, rfl, p, rfl, P6.1, fun z2 H7 lz P7 => ?_⟩
          exact ⟨P6.trans P7, z2, txt_of (k := 30) (n := 30) (nb_len lz) (Nat.le_trans List.count_le_length lz) (by decide) (by decide) (by decide), rfl⟩
        · exact ⟨P6, z, tz, rfl⟩
      clear tz nz cz P6
      clear z
      rintro σ' H7 ⟨P7, z, tz, rfl⟩
      refine ⟨_, rfl, by show 1 ≤ sizeLine; decide, fun u1 nu1 => ?_⟩
      refine ⟨_, rfl, by show 1 ≤ sizeLine; decide, fun u2 nu2 => ?_⟩
      refine fun u3 nu3 u4 nu4 => ?_
      refine ⟨_, rfl, upd_same, [(keyT G, .int 1)], rfl, by show 1 ≤ 15; decide, ?_⟩
      rw [upd_upd]
      have e4 : mergeK [] [(keyT G, V.int 1)] = [(keyT G, V.int 1)] := rfl
      rw [e4]
      refine ⟨by show 0 ≤ sizeLine; decide, fun u5 nu5 => ⟨by show 0 ≤ sizeLine; decide, fun u6 nu6 => ⟨by show 10 ≤ sizeLine; decide, fun M nM => ?_⟩⟩⟩
      have Q1 := pot_new (o := .lst [.str (SX.S G)]) P7 nu1
      have Q2 := pot_new (o := .tup [.str (SX.S G)]) Q1 nu2
      have Q3 := pot_new (o := .dK []) Q2 nu3
      have Q4 := pot_new (o := .dK [(keyT G, V.int 1)]) Q3 nu4
      have Q5 := pot_new (o := .lst []) Q4 nu5
      have Q6 := pot_new (o := .tup []) Q5 nu6
      have Q7 := pot_new (o := .lst [.non, .int 7, .bl true, .ref u1, .ref u2, .ref u3, .ref u4, .int 0, .ref u5, .ref u6]) Q6 nM
      have W2 := ex_new (o := .tup [.str (SX.S G)]) nu2
      have W3 := ex_new (o := .dK []) nu3
      have W4 := ex_new (o := .dK [(keyT G, V.int 1)]) nu4
      have W5 := ex_new (o := .lst []) nu5
      have W6 := ex_new (o := .tup []) nu6
      have W7 := ex_new (o := .lst [.non, .int 7, .bl true, .ref u1, .ref u2, .ref u3, .ref u4, .int 0, .ref u5, .ref u6]) nM
      have W67 := W6.trans W7
      have W57 := W5.trans W67
      have W47 := W4.trans W57
      have W37 := W3.trans W47
      have W27 := W2.trans W37
      refine ⟨_, rfl, p, 10, rfl, Q7.1, by decide, by decide, fun d H8 d0 d1 P8 => ?_⟩
      have k1 := P8.2 _ _ (pot_ne P7 nu1) (W27 _ _ upd_same)
      have k2 := P8.2 _ _ (pot_ne Q1 nu2) (W37 _ _ upd_same)
      have k3 := P8.2 _ _ (pot_ne Q2 nu3) (W47 _ _ upd_same)
      have k4 := P8.2 _ _ (pot_ne Q3 nu4) (W57 _ _ upd_same)
      have k5 := P8.2 _ _ (pot_ne Q4 nu5) (W67 _ _ upd_same)
      have k6 := P8.2 _ _ (pot_ne Q5 nu6) (W7 _ _ upd_same)
      have k7 := P8.2 _ _ (pot_ne Q6 nM) upd_same
      have X8 : Ex H H8 := PotOn.ex X2 hp0 (Q7.trans P8)
      obtain ⟨x, hx, ex⟩ := at_mem (xs := [.non, .int 7, .bl true, .ref u1, .ref u2, .ref u3, .ref u4, .int 0, .ref u5, .ref u6]) d0 (by show d < 10; exact d1)
      have odd : ∃ t, TyX K H8 x t ∧ PySem.W.kitOne K t (.type "str") = some false := by
        simp only [List.mem_cons, List.not_mem_nil, or_false] at hx
        rcases hx with rfl | rfl | rfl | rfl | rfl | rfl | rfl | rfl | rfl | rfl
        · exact ⟨_, .base .non, kit_ty (by decide +kernel)⟩
        · exact ⟨_, .base (.int _), kit_ty (by decide +kernel)⟩
        · exact ⟨_, .base (.bl _), kit_ty (by decide +kernel)⟩
        · exact ⟨_, .base (.lst k1), kit_ty (by decide +kernel)⟩
        · exact ⟨_, .base (.tup k2), kit_ty (by decide +kernel)⟩
        · exact ⟨_, .base (.dK k3), kit_ty (by decide +kernel)⟩
        · exact ⟨_, .base (.dK k4), kit_ty (by decide +kernel)⟩
        · exact ⟨_, .base (.int _), kit_ty (by decide +kernel)⟩
        · exact ⟨_, .base (.lst k5), kit_ty (by decide +kernel)⟩
        · exact ⟨_, .base (.tup k6), kit_ty (by decide +kernel)⟩
      refine ⟨M, _, _, x, rfl, rfl, sq_lst k7, ex, ?_⟩
      refine ⟨_, rfl, _, rfl, _, rfl, by show 3 ≤ sizeLine; decide, fun tt ntt => ?_⟩
      have X9 := ex_new (o := .tup [.str (SX.S z), x, .str (SX.S G)]) ntt
      have htt : upd H8 tt (.tup [.str (SX.S z), x, .str (SX.S G)]) tt = some (.tup [.str (SX.S z), x, .str (SX.S G)]) := upd_same
      have rN : readD [] = none := by decide +kernel
      have all3 : ∀ v ∈ [V.str (SX.S z), x, .str (SX.S G)], ∃ l, ThingT K (upd H8 tt (.tup [.str (SX.S z), x, .str (SX.S G)])) v l := by
        intro v hv
        simp only [List.mem_cons, List.not_mem_nil, or_false] at hv
        rcases hv with rfl | rfl | rfl
        · exact ⟨z, .inl ⟨rfl, tz⟩⟩
        · obtain ⟨t, ty, kt⟩ := odd
          exact ⟨[], .inr ⟨rN, t, tyX_mono X9 ty, kt⟩⟩
        · exact ⟨G, .inl ⟨rfl, tG⟩⟩
      generalize upd H8 tt (.tup [.str (SX.S z), x, .str (SX.S G)]) = H9 at X9 htt all3 ⊢
      have htt' : H9 tt = some (.tup (([V.str (SX.S z), x, .str (SX.S G)] : List V).map fun v => v)) := htt
      refine ⟨tt, rfl, ⟨_, sq_tup htt'⟩, fun A nA => lc_on [V.str (SX.S z), x, .str (SX.S G)] (fun v => v) L2.walk_tup (fun _ => some (.bl true)) (fun H' => Ex H9 H') (fun H' z e => ex_mut e nA) (.refl _) (by show 3 ≤ 100000; decide) (fun H' e => sq_tup (e _ _ htt')) (fun j v H10 acc N hv X10 hA la k => ?_) fun H10 X10 d10 => ?_⟩
      · obtain ⟨l, hl⟩ := all3 v (List.mem_of_getElem? hv)
        exact ⟨rfl, _, rfl, v, l, rfl, hl.mono X10, fun H11 X11 => ⟨acc, X11 _ _ hA, la, k H11 (X10.trans X11) (X11 _ _ hA)⟩⟩
      have d11 : H10 A = some (.lst ([true, true, true].map V.bl)) := d10
      refine ⟨A, [true, true, true], rfl, sq_lst d11, true, rfl, iteF ?_⟩
      exact ⟨X8.trans (X9.trans X10), _, _, _, _, _, _, _, _, rfl⟩
    · rintro σ H1 ⟨_, _, _, _, _, _, _, _, _, rfl⟩
      exact q _

end
end Toy
namespace Toy
open PySem PySem.Spec PyProof.Rows L2 L3
def xf : List Fx := [fun K => (He.Fa.glo "_wall").ok K,
  fun K => (He.Fa.glo "is_whole").ok K,
  fun K => (He.Fa.glo "is_moment").ok K,
  fun K => (He.Fa.glo "are_figures").ok K,
  fun K => (He.Fa.glo "want_day").ok K,
  fun K => (He.Fa.glo "are_signs").ok K,
  fun K => (He.Fa.glo "told_days").ok K,
  fun K => (He.Fa.glo "want_till").ok K,
  fun K => (He.Fa.glo "edges_of").ok K,
  fun K => (He.Fa.glo "stretches").ok K,
  fun K => (He.Fa.glo "first_days").ok K,
  fun K => (He.Fa.glo "common_round").ok K,
  fun K => (He.Fa.glo "first_apart").ok K,
  fun K => (He.Fa.glo "day_in").ok K,
  fun K => (He.Fa.glo "days_of").ok K,
  fun K => (He.Fa.glo "read_days").ok K,
  fun K => (He.Fa.glo "_law_pot").ok K,
  fun K => (He.Fa.glo "_law_take").ok K,
  fun K => (He.Fa.glo "_law_great").ok K,
  fun K => (He.Fa.glo "_law_bits").ok K,
  fun K => (He.Fa.glo "_law_near").ok K,
  fun K => (He.Fa.glo "_law_few").ok K,
  fun K => (He.Fa.glo "_law_some").ok K,
  fun K => (He.Fa.glo "_law_written").ok K,
  fun K => (He.Fa.glo "_law_signs").ok K,
  fun K => (He.Fa.glo "_law_signs_spoilt").ok K,
  fun K => (He.Fa.glo "_law_spoilt").ok K,
  fun K => (He.Fa.glo "_law_odd").ok K,
  fun K => (He.Fa.glo "_law_number").ok K,
  fun K => (He.Fa.glo "_law_list").ok K,
  fun K => (He.Fa.glo "_law_parts").ok K,
  fun K => (He.Fa.glo "_law_read").ok K,
  fun K => (He.Fa.glo "_law_told").ok K,
  fun K => (He.Fa.glo "_law_right").ok K,
  fun K => (He.Fa.glo "law").ok K,
  fun K => (He.Fa.str "FIGURES" "0123456789").ok K,
  fun K => (He.Fa.int "MOST_SIGNS" (7)).ok K,
  fun K => (He.Fa.str "NOUGHT" "0").ok K,
  fun K => (He.Fa.str "ONE" "1").ok K,
  fun K => (He.Fa.int "MOST_DAYS" (8)).ok K,
  fun K => (He.Fa.str "FROM" "from").ok K,
  fun K => (He.Fa.str "TO" "to").ok K,
  fun K => (He.Fa.str "NOT" "not").ok K,
  fun K => (He.Fa.str "ALSO" "also").ok K,
  fun K => (He.Fa.free "ValueError").ok K,
  fun K => (He.Fa.free "all").ok K,
  fun K => (He.Fa.free "any").ok K,
  fun K => (He.Fa.free "bool").ok K,
  fun K => (He.Fa.free "divmod").ok K,
  fun K => (He.Fa.free "int").ok K,
  fun K => (He.Fa.free "isinstance").ok K,
  fun K => (He.Fa.free "len").ok K,
  fun K => (He.Fa.free "list").ok K,
  fun K => (He.Fa.free "max").ok K,
  fun K => (He.Fa.free "min").ok K,
  fun K => (He.Fa.free "range").ok K,
  fun K => (He.Fa.free "repr").ok K,
  fun K => (He.Fa.free "reversed").ok K,
  fun K => (He.Fa.free "set").ok K,
  fun K => (He.Fa.free "sorted").ok K,
  fun K => (He.Fa.free "str").ok K,
  fun K => (He.Fa.free "tuple").ok K,
  fun K => (He.Fa.free "zip").ok K,
  fun K => (He.Fa.glo "GoingError").ok K,
  exoB bmV "ValueError.__new__" "GoingError",
  fun K => (He.Fa.glo "LackError").ok K,
  exoB bmL "LookupError.__new__" "LackError",
  fun K => (He.Fa.glo "BookError").ok K,
  exoB bmR "RuntimeError.__new__" "BookError",
  fun K => (He.Fa.glo "NoTime").ok K,
  exoB bmV "ValueError.__new__" "NoTime",
  fun K => (He.Fa.glo "NoPiece").ok K,
  exoB bmV "ValueError.__new__" "NoPiece",
  fun K => (He.Fa.glo "NoDays").ok K,
  exoB bmV "ValueError.__new__" "NoDays",
  fun K => (He.Fa.glo "NoCard").ok K,
  exoB bmV "ValueError.__new__" "NoCard",
  fun K => (He.Fa.glo "NoName").ok K,
  exoB bmV "ValueError.__new__" "NoName",
  fun K => (He.Fa.glo "NoRow").ok K,
  exoB bmV "ValueError.__new__" "NoRow",
  fun K => (He.Fa.glo "NoText").ok K,
  fun K => (He.Fa.glo "Ring").ok K,
  fun K => (He.Fa.glo "Days").ok K,
  sysB,
  fun K => (He.Fa.cls "Ring").ok K,
  insB "Ring",
  fun K => (He.Fa.noat "Ring" "bits").ok K,
  fun K => (He.Fa.meth "Ring" "__init__").ok K,
  fun K => (He.Fa.meth "Ring" "__eq__").ok K,
  fun K => (He.Fa.meth "Ring" "__len__").ok K,
  fun K => (He.Fa.meth "Ring" "__str__").ok K,
  fun K => (He.Fa.meth "Ring" "__repr__").ok K,
  fun K => (He.Fa.meth "Ring" "rings").ok K,
  fun K => (He.Fa.meth "Ring" "least").ok K,
  fun K => (He.Fa.mkr "Ring").ok K,
  noBaseF "Ring",
  kitF "Ring" "Ring" true,
  kitF "Ring" "Days" false,
  kitFT "Ring" "int" false,
  kitFT "Ring" "bool" false,
  kitFT "Ring" "str" false,
  kitFT "Ring" "list" false,
  kitFT "Ring" "tuple" false,
  kitFT "Ring" "ValueError" false,
  fun K => (He.Fa.cls "Days").ok K,
  insB "Days",
  fun K => (He.Fa.noat "Days" "ring").ok K,
  fun K => (He.Fa.noat "Days" "since").ok K,
  fun K => (He.Fa.noat "Days" "till").ok K,
  fun K => (He.Fa.noat "Days" "out").ok K,
  fun K => (He.Fa.noat "Days" "also").ok K,
  fun K => (He.Fa.meth "Days" "__init__").ok K,
  fun K => (He.Fa.meth "Days" "__eq__").ok K,
  fun K => (He.Fa.meth "Days" "__str__").ok K,
  fun K => (He.Fa.meth "Days" "__repr__").ok K,
  fun K => (He.Fa.meth "Days" "has").ok K,
  fun K => (He.Fa.meth "Days" "first_from").ok K,
  fun K => (He.Fa.meth "Days" "how_many").ok K,
  fun K => (He.Fa.meth "Days" "among").ok K,
  fun K => (He.Fa.mkr "Days").ok K,
  noBaseF "Days",
  kitF "Days" "Ring" false,
  kitF "Days" "Days" true,
  kitFT "Days" "int" false,
  kitFT "Days" "bool" false,
  kitFT "Days" "str" false,
  kitFT "Days" "list" false,
  kitFT "Days" "tuple" false,
  kitFT "Days" "ValueError" false,
  kitBF "int" "Ring" false,
  kitBF "bool" "Ring" false,
  kitBF "str" "Ring" false,
  kitBF "NoneType" "Ring" false,
  kitBF "list" "Ring" false,
  kitBF "tuple" "Ring" false,
  kitBF "dict" "Ring" false,
  kitBF "int" "Days" false,
  kitBF "bool" "Days" false,
  kitBF "str" "Days" false,
  kitBF "NoneType" "Days" false,
  kitBF "list" "Days" false,
  kitBF "tuple" "Days" false,
  kitBF "dict" "Days" false,
  excCB "NoDays",
  kitF "NoDays" "GoingError" true,
  kitF "NoDays" "LackError" false,
  kitF "NoDays" "BookError" false,
  kitF "NoDays" "NoTime" false,
  kitF "NoDays" "NoPiece" false,
  kitF "NoDays" "NoDays" true,
  kitF "NoDays" "NoCard" false,
  kitF "NoDays" "NoName" false,
  kitF "NoDays" "NoRow" false,
  kitF "NoDays" "NoText" false,
  kitFT "NoDays" "ValueError" true,
  kitFT "NoDays" "LookupError" false,
  kitFT "NoDays" "RuntimeError" false,
  exm3F "NoDays" ["GoingError", "LackError", "BookError"]]
def d__wall : He.DefD := ⟨("_wall", none), "_wall", "_wall", defArgs s__wall, defBody s__wall, defScope s__wall, [], []⟩
def d_NoText_init : He.DefD := ⟨("NoText", some "__init__"), "__init__", "NoText.__init__", defArgs s_NoText_init, defBody s_NoText_init, defScope s_NoText_init, [], []⟩
def d_is_whole : He.DefD := ⟨("is_whole", none), "is_whole", "is_whole", defArgs s_is_whole, defBody s_is_whole, defScope s_is_whole, [], []⟩
def d_is_moment : He.DefD := ⟨("is_moment", none), "is_moment", "is_moment", defArgs s_is_moment, defBody s_is_moment, defScope s_is_moment, [], []⟩
def d_are_figures : He.DefD := ⟨("are_figures", none), "are_figures", "are_figures", defArgs s_are_figures, defBody s_are_figures, defScope s_are_figures, [], []⟩
def d_want_day : He.DefD := ⟨("want_day", none), "want_day", "want_day", defArgs s_want_day, defBody s_want_day, defScope s_want_day, [], []⟩
def d_are_signs : He.DefD := ⟨("are_signs", none), "are_signs", "are_signs", defArgs s_are_signs, defBody s_are_signs, defScope s_are_signs, [], []⟩
def d_Ring_init : He.DefD := ⟨("Ring", some "__init__"), "__init__", "Ring.__init__", defArgs s_Ring_init, defBody s_Ring_init, defScope s_Ring_init, [], []⟩
def d_Ring_eq : He.DefD := ⟨("Ring", some "__eq__"), "__eq__", "Ring.__eq__", defArgs s_Ring_eq, defBody s_Ring_eq, defScope s_Ring_eq, [], []⟩
def d_Ring_len : He.DefD := ⟨("Ring", some "__len__"), "__len__", "Ring.__len__", defArgs s_Ring_len, defBody s_Ring_len, defScope s_Ring_len, [], []⟩
def d_Ring_str : He.DefD := ⟨("Ring", some "__str__"), "__str__", "Ring.__str__", defArgs s_Ring_str, defBody s_Ring_str, defScope s_Ring_str, [], []⟩
def d_Ring_repr : He.DefD := ⟨("Ring", some "__repr__"), "__repr__", "Ring.__repr__", defArgs s_Ring_repr, defBody s_Ring_repr, defScope s_Ring_repr, [], []⟩
def d_Ring_rings : He.DefD := ⟨("Ring", some "rings"), "rings", "Ring.rings", defArgs s_Ring_rings, defBody s_Ring_rings, defScope s_Ring_rings, [], []⟩
def d_Ring_least : He.DefD := ⟨("Ring", some "least"), "least", "Ring.least", defArgs s_Ring_least, defBody s_Ring_least, defScope s_Ring_least, [], []⟩
def d_told_days : He.DefD := ⟨("told_days", none), "told_days", "told_days", defArgs s_told_days, defBody s_told_days, defScope s_told_days, [], []⟩
def d_want_till : He.DefD := ⟨("want_till", none), "want_till", "want_till", defArgs s_want_till, defBody s_want_till, defScope s_want_till, [], []⟩
def d_Days_init : He.DefD := ⟨("Days", some "__init__"), "__init__", "Days.__init__", defArgs s_Days_init, defBody s_Days_init, defScope s_Days_init, [.int (0), .non, .non, .non], []⟩
def d_Days_eq : He.DefD := ⟨("Days", some "__eq__"), "__eq__", "Days.__eq__", defArgs s_Days_eq, defBody s_Days_eq, defScope s_Days_eq, [], []⟩
def d_Days_str : He.DefD := ⟨("Days", some "__str__"), "__str__", "Days.__str__", defArgs s_Days_str, defBody s_Days_str, defScope s_Days_str, [], []⟩
def d_Days_repr : He.DefD := ⟨("Days", some "__repr__"), "__repr__", "Days.__repr__", defArgs s_Days_repr, defBody s_Days_repr, defScope s_Days_repr, [], []⟩
def d_Days_has : He.DefD := ⟨("Days", some "has"), "has", "Days.has", defArgs s_Days_has, defBody s_Days_has, defScope s_Days_has, [], []⟩
def d_Days_first_from : He.DefD := ⟨("Days", some "first_from"), "first_from", "Days.first_from", defArgs s_Days_first_from, defBody s_Days_first_from, defScope s_Days_first_from, [], []⟩
def d_Days_how_many : He.DefD := ⟨("Days", some "how_many"), "how_many", "Days.how_many", defArgs s_Days_how_many, defBody s_Days_how_many, defScope s_Days_how_many, [], []⟩
def d_Days_among : He.DefD := ⟨("Days", some "among"), "among", "Days.among", defArgs s_Days_among, defBody s_Days_among, defScope s_Days_among, [], []⟩
def d_edges_of : He.DefD := ⟨("edges_of", none), "edges_of", "edges_of", defArgs s_edges_of, defBody s_edges_of, defScope s_edges_of, [], []⟩
def d_stretches : He.DefD := ⟨("stretches", none), "stretches", "stretches", defArgs s_stretches, defBody s_stretches, defScope s_stretches, [], []⟩
def d_first_days : He.DefD := ⟨("first_days", none), "first_days", "first_days", defArgs s_first_days, defBody s_first_days, defScope s_first_days, [], []⟩
def d_common_round : He.DefD := ⟨("common_round", none), "common_round", "common_round", defArgs s_common_round, defBody s_common_round, defScope s_common_round, [], []⟩
def d_first_apart : He.DefD := ⟨("first_apart", none), "first_apart", "first_apart", defArgs s_first_apart, defBody s_first_apart, defScope s_first_apart, [], []⟩
def d_day_in : He.DefD := ⟨("day_in", none), "day_in", "day_in", defArgs s_day_in, defBody s_day_in, defScope s_day_in, [], []⟩
def d_days_of : He.DefD := ⟨("days_of", none), "days_of", "days_of", defArgs s_days_of, defBody s_days_of, defScope s_days_of, [], []⟩
def d_read_days : He.DefD := ⟨("read_days", none), "read_days", "read_days", defArgs s_read_days, defBody s_read_days, defScope s_read_days, [], []⟩
def d__law_pot : He.DefD := ⟨("_law_pot", none), "_law_pot", "_law_pot", defArgs s__law_pot, defBody s__law_pot, defScope s__law_pot, [], []⟩
def d__law_take : He.DefD := ⟨("_law_take", none), "_law_take", "_law_take", defArgs s__law_take, defBody s__law_take, defScope s__law_take, [], []⟩
def d__law_great : He.DefD := ⟨("_law_great", none), "_law_great", "_law_great", defArgs s__law_great, defBody s__law_great, defScope s__law_great, [], []⟩
def d__law_bits : He.DefD := ⟨("_law_bits", none), "_law_bits", "_law_bits", defArgs s__law_bits, defBody s__law_bits, defScope s__law_bits, [], []⟩
def d__law_near : He.DefD := ⟨("_law_near", none), "_law_near", "_law_near", defArgs s__law_near, defBody s__law_near, defScope s__law_near, [], []⟩
def d__law_few : He.DefD := ⟨("_law_few", none), "_law_few", "_law_few", defArgs s__law_few, defBody s__law_few, defScope s__law_few, [], []⟩
def d__law_some : He.DefD := ⟨("_law_some", none), "_law_some", "_law_some", defArgs s__law_some, defBody s__law_some, defScope s__law_some, [], []⟩
def d__law_written : He.DefD := ⟨("_law_written", none), "_law_written", "_law_written", defArgs s__law_written, defBody s__law_written, defScope s__law_written, [], []⟩
def d__law_signs : He.DefD := ⟨("_law_signs", none), "_law_signs", "_law_signs", defArgs s__law_signs, defBody s__law_signs, defScope s__law_signs, [], []⟩
def d__law_signs_spoilt : He.DefD := ⟨("_law_signs_spoilt", none), "_law_signs_spoilt", "_law_signs_spoilt", defArgs s__law_signs_spoilt, defBody s__law_signs_spoilt, defScope s__law_signs_spoilt, [], []⟩
def d__law_spoilt : He.DefD := ⟨("_law_spoilt", none), "_law_spoilt", "_law_spoilt", defArgs s__law_spoilt, defBody s__law_spoilt, defScope s__law_spoilt, [], []⟩
def d__law_odd : He.DefD := ⟨("_law_odd", none), "_law_odd", "_law_odd", defArgs s__law_odd, defBody s__law_odd, defScope s__law_odd, [], []⟩
def d__law_number : He.DefD := ⟨("_law_number", none), "_law_number", "_law_number", defArgs s__law_number, defBody s__law_number, defScope s__law_number, [], []⟩
def d__law_list : He.DefD := ⟨("_law_list", none), "_law_list", "_law_list", defArgs s__law_list, defBody s__law_list, defScope s__law_list, [], []⟩
def d__law_parts : He.DefD := ⟨("_law_parts", none), "_law_parts", "_law_parts", defArgs s__law_parts, defBody s__law_parts, defScope s__law_parts, [], []⟩
def d__law_read : He.DefD := ⟨("_law_read", none), "_law_read", "_law_read", defArgs s__law_read, defBody s__law_read, defScope s__law_read, [], []⟩
def d__law_told : He.DefD := ⟨("_law_told", none), "_law_told", "_law_told", defArgs s__law_told, defBody s__law_told, defScope s__law_told, [], []⟩
def d__law_right : He.DefD := ⟨("_law_right", none), "_law_right", "_law_right", defArgs s__law_right, defBody s__law_right, defScope s__law_right, [], []⟩
def d_law : He.DefD := ⟨("law", none), "law", "law", defArgs s_law, defBody s_law, defScope s_law, [], []⟩
def fn : List He.DefD := [d__wall, d_NoText_init, d_is_whole, d_is_moment, d_are_figures, d_want_day, d_are_signs, d_Ring_init, d_Ring_eq, d_Ring_len, d_Ring_str, d_Ring_repr, d_Ring_rings, d_Ring_least, d_told_days, d_want_till, d_Days_init, d_Days_eq, d_Days_str, d_Days_repr, d_Days_has, d_Days_first_from, d_Days_how_many, d_Days_among, d_edges_of, d_stretches, d_first_days, d_common_round, d_first_apart, d_day_in, d_days_of, d_read_days, d__law_pot, d__law_take, d__law_great, d__law_bits, d__law_near, d__law_few, d__law_some, d__law_written, d__law_signs, d__law_signs_spoilt, d__law_spoilt, d__law_odd, d__law_number, d__law_list, d__law_parts, d__law_read, d__law_told, d__law_right, d_law]
abbrev R : PySem.W.OpenRow := PySem.W.OpenLaw.row PySem.Challenge.rw_shortgoings_k46_texts_of_no_days
abbrev hk : PySem.W.Hook := hookX 6 xf fn
def ob (s : PySem.W.SharedT) : He.AlD := obsXG 6 xf fn (HandSHeadRun.getT s)
theorem ob_eq (s : PySem.W.SharedT) : ob s = hk.obs s.abs := obsXG_eq (HandSHeadRun.getT_eq s)
def ns0 : List PySem.Str := ["_wall", "GoingError", "LackError", "BookError", "NoTime", "NoPiece", "NoDays", "NoCard", "NoName", "NoRow", "NoText", "FIGURES", "is_whole", "is_moment", "are_figures", "MOST_SIGNS", "NOUGHT", "ONE", "want_day", "are_signs", "Ring", "MOST_DAYS", "FROM", "TO", "NOT", "ALSO", "told_days", "want_till", "Days", "edges_of"]
def ns1 : List PySem.Str := ["stretches", "first_days", "common_round", "first_apart", "day_in", "days_of", "read_days", "_law_pot", "_law_take", "_law_great", "_law_bits", "_law_near", "_law_few", "_law_some", "_law_written", "_law_signs", "_law_signs_spoilt", "_law_spoilt", "_law_odd", "_law_number", "_law_list", "_law_parts", "_law_read", "_law_told", "_law_right"]
def nss : List PySem.Str := ns0 ++ ns1
theorem run (w : World) : HandSHeadRun.RunEq R (PySem.W.view R.prog [60]) hk ob 8000 nss w := by
  intro os
  kernel_rfl
theorem env_of {K : PySem.W.Frag} {h : Heap} {mg : Str → Option Value} (X : K.In h) (G : h.Ns mainGlobals mg) (c : SaysX xf fn K) : Env K mg :=
  ⟨He.glo_ok X G (c.fact 0 (f := fun K => (He.Fa.glo "_wall").ok K) rfl),
  He.glo_ok X G (c.fact 1 (f := fun K => (He.Fa.glo "is_whole").ok K) rfl),
  He.glo_ok X G (c.fact 2 (f := fun K => (He.Fa.glo "is_moment").ok K) rfl),
  He.glo_ok X G (c.fact 3 (f := fun K => (He.Fa.glo "are_figures").ok K) rfl),
  He.glo_ok X G (c.fact 4 (f := fun K => (He.Fa.glo "want_day").ok K) rfl),
  He.glo_ok X G (c.fact 5 (f := fun K => (He.Fa.glo "are_signs").ok K) rfl),
  He.glo_ok X G (c.fact 6 (f := fun K => (He.Fa.glo "told_days").ok K) rfl),
  He.glo_ok X G (c.fact 7 (f := fun K => (He.Fa.glo "want_till").ok K) rfl),
  He.glo_ok X G (c.fact 8 (f := fun K => (He.Fa.glo "edges_of").ok K) rfl),
  He.glo_ok X G (c.fact 9 (f := fun K => (He.Fa.glo "stretches").ok K) rfl),
  He.glo_ok X G (c.fact 10 (f := fun K => (He.Fa.glo "first_days").ok K) rfl),
  He.glo_ok X G (c.fact 11 (f := fun K => (He.Fa.glo "common_round").ok K) rfl),
  He.glo_ok X G (c.fact 12 (f := fun K => (He.Fa.glo "first_apart").ok K) rfl),
  He.glo_ok X G (c.fact 13 (f := fun K => (He.Fa.glo "day_in").ok K) rfl),
  He.glo_ok X G (c.fact 14 (f := fun K => (He.Fa.glo "days_of").ok K) rfl),
  He.glo_ok X G (c.fact 15 (f := fun K => (He.Fa.glo "read_days").ok K) rfl),
  He.glo_ok X G (c.fact 16 (f := fun K => (He.Fa.glo "_law_pot").ok K) rfl),
  He.glo_ok X G (c.fact 17 (f := fun K => (He.Fa.glo "_law_take").ok K) rfl),
  He.glo_ok X G (c.fact 18 (f := fun K => (He.Fa.glo "_law_great").ok K) rfl),
  He.glo_ok X G (c.fact 19 (f := fun K => (He.Fa.glo "_law_bits").ok K) rfl),
  He.glo_ok X G (c.fact 20 (f := fun K => (He.Fa.glo "_law_near").ok K) rfl),
  He.glo_ok X G (c.fact 21 (f := fun K => (He.Fa.glo "_law_few").ok K) rfl),
  He.glo_ok X G (c.fact 22 (f := fun K => (He.Fa.glo "_law_some").ok K) rfl),
  He.glo_ok X G (c.fact 23 (f := fun K => (He.Fa.glo "_law_written").ok K) rfl),
  He.glo_ok X G (c.fact 24 (f := fun K => (He.Fa.glo "_law_signs").ok K) rfl),
  He.glo_ok X G (c.fact 25 (f := fun K => (He.Fa.glo "_law_signs_spoilt").ok K) rfl),
  He.glo_ok X G (c.fact 26 (f := fun K => (He.Fa.glo "_law_spoilt").ok K) rfl),
  He.glo_ok X G (c.fact 27 (f := fun K => (He.Fa.glo "_law_odd").ok K) rfl),
  He.glo_ok X G (c.fact 28 (f := fun K => (He.Fa.glo "_law_number").ok K) rfl),
  He.glo_ok X G (c.fact 29 (f := fun K => (He.Fa.glo "_law_list").ok K) rfl),
  He.glo_ok X G (c.fact 30 (f := fun K => (He.Fa.glo "_law_parts").ok K) rfl),
  He.glo_ok X G (c.fact 31 (f := fun K => (He.Fa.glo "_law_read").ok K) rfl),
  He.glo_ok X G (c.fact 32 (f := fun K => (He.Fa.glo "_law_told").ok K) rfl),
  He.glo_ok X G (c.fact 33 (f := fun K => (He.Fa.glo "_law_right").ok K) rfl),
  He.glo_ok X G (c.fact 34 (f := fun K => (He.Fa.glo "law").ok K) rfl),
  gstr_of X G (c.fact 35 (f := fun K => (He.Fa.str "FIGURES" "0123456789").ok K) rfl),
  gint_of X G (c.fact 36 (f := fun K => (He.Fa.int "MOST_SIGNS" (7)).ok K) rfl),
  gstr_of X G (c.fact 37 (f := fun K => (He.Fa.str "NOUGHT" "0").ok K) rfl),
  gstr_of X G (c.fact 38 (f := fun K => (He.Fa.str "ONE" "1").ok K) rfl),
  gint_of X G (c.fact 39 (f := fun K => (He.Fa.int "MOST_DAYS" (8)).ok K) rfl),
  gstr_of X G (c.fact 40 (f := fun K => (He.Fa.str "FROM" "from").ok K) rfl),
  gstr_of X G (c.fact 41 (f := fun K => (He.Fa.str "TO" "to").ok K) rfl),
  gstr_of X G (c.fact 42 (f := fun K => (He.Fa.str "NOT" "not").ok K) rfl),
  gstr_of X G (c.fact 43 (f := fun K => (He.Fa.str "ALSO" "also").ok K) rfl),
  He.free_ok X G (c.fact 44 (f := fun K => (He.Fa.free "ValueError").ok K) rfl),
  He.free_ok X G (c.fact 45 (f := fun K => (He.Fa.free "all").ok K) rfl),
  He.free_ok X G (c.fact 46 (f := fun K => (He.Fa.free "any").ok K) rfl),
  He.free_ok X G (c.fact 47 (f := fun K => (He.Fa.free "bool").ok K) rfl),
  He.free_ok X G (c.fact 48 (f := fun K => (He.Fa.free "divmod").ok K) rfl),
  He.free_ok X G (c.fact 49 (f := fun K => (He.Fa.free "int").ok K) rfl),
  He.free_ok X G (c.fact 50 (f := fun K => (He.Fa.free "isinstance").ok K) rfl),
  He.free_ok X G (c.fact 51 (f := fun K => (He.Fa.free "len").ok K) rfl),
  He.free_ok X G (c.fact 52 (f := fun K => (He.Fa.free "list").ok K) rfl),
  He.free_ok X G (c.fact 53 (f := fun K => (He.Fa.free "max").ok K) rfl),
  He.free_ok X G (c.fact 54 (f := fun K => (He.Fa.free "min").ok K) rfl),
  He.free_ok X G (c.fact 55 (f := fun K => (He.Fa.free "range").ok K) rfl),
  He.free_ok X G (c.fact 56 (f := fun K => (He.Fa.free "repr").ok K) rfl),
  He.free_ok X G (c.fact 57 (f := fun K => (He.Fa.free "reversed").ok K) rfl),
  He.free_ok X G (c.fact 58 (f := fun K => (He.Fa.free "set").ok K) rfl),
  He.free_ok X G (c.fact 59 (f := fun K => (He.Fa.free "sorted").ok K) rfl),
  He.free_ok X G (c.fact 60 (f := fun K => (He.Fa.free "str").ok K) rfl),
  He.free_ok X G (c.fact 61 (f := fun K => (He.Fa.free "tuple").ok K) rfl),
  He.free_ok X G (c.fact 62 (f := fun K => (He.Fa.free "zip").ok K) rfl),
  He.glo_ok X G (c.fact 63 (f := fun K => (He.Fa.glo "GoingError").ok K) rfl),
  exo_of (c.fact 64 (f := exoB bmV "ValueError.__new__" "GoingError") rfl),
  He.glo_ok X G (c.fact 65 (f := fun K => (He.Fa.glo "LackError").ok K) rfl),
  exo_of (c.fact 66 (f := exoB bmL "LookupError.__new__" "LackError") rfl),
  He.glo_ok X G (c.fact 67 (f := fun K => (He.Fa.glo "BookError").ok K) rfl),
  exo_of (c.fact 68 (f := exoB bmR "RuntimeError.__new__" "BookError") rfl),
  He.glo_ok X G (c.fact 69 (f := fun K => (He.Fa.glo "NoTime").ok K) rfl),
  exo_of (c.fact 70 (f := exoB bmV "ValueError.__new__" "NoTime") rfl),
  He.glo_ok X G (c.fact 71 (f := fun K => (He.Fa.glo "NoPiece").ok K) rfl),
  exo_of (c.fact 72 (f := exoB bmV "ValueError.__new__" "NoPiece") rfl),
  He.glo_ok X G (c.fact 73 (f := fun K => (He.Fa.glo "NoDays").ok K) rfl),
  exo_of (c.fact 74 (f := exoB bmV "ValueError.__new__" "NoDays") rfl),
  He.glo_ok X G (c.fact 75 (f := fun K => (He.Fa.glo "NoCard").ok K) rfl),
  exo_of (c.fact 76 (f := exoB bmV "ValueError.__new__" "NoCard") rfl),
  He.glo_ok X G (c.fact 77 (f := fun K => (He.Fa.glo "NoName").ok K) rfl),
  exo_of (c.fact 78 (f := exoB bmV "ValueError.__new__" "NoName") rfl),
  He.glo_ok X G (c.fact 79 (f := fun K => (He.Fa.glo "NoRow").ok K) rfl),
  exo_of (c.fact 80 (f := exoB bmV "ValueError.__new__" "NoRow") rfl),
  He.glo_ok X G (c.fact 81 (f := fun K => (He.Fa.glo "NoText").ok K) rfl),
  He.glo_ok X G (c.fact 82 (f := fun K => (He.Fa.glo "Ring").ok K) rfl),
  He.glo_ok X G (c.fact 83 (f := fun K => (He.Fa.glo "Days").ok K) rfl),
  sys_of (c.fact 84 (f := sysB) rfl),
  He.cls_ok (c.fact 85 (f := fun K => (He.Fa.cls "Ring").ok K) rfl),
  insC_of (c.fact 86 (f := insB "Ring") rfl),
  He.noat_ok (c.fact 87 (f := fun K => (He.Fa.noat "Ring" "bits").ok K) rfl),
  He.meth_ok (c.fact 88 (f := fun K => (He.Fa.meth "Ring" "__init__").ok K) rfl),
  He.meth_ok (c.fact 89 (f := fun K => (He.Fa.meth "Ring" "__eq__").ok K) rfl),
  He.meth_ok (c.fact 90 (f := fun K => (He.Fa.meth "Ring" "__len__").ok K) rfl),
  He.meth_ok (c.fact 91 (f := fun K => (He.Fa.meth "Ring" "__str__").ok K) rfl),
  He.meth_ok (c.fact 92 (f := fun K => (He.Fa.meth "Ring" "__repr__").ok K) rfl),
  He.meth_ok (c.fact 93 (f := fun K => (He.Fa.meth "Ring" "rings").ok K) rfl),
  He.meth_ok (c.fact 94 (f := fun K => (He.Fa.meth "Ring" "least").ok K) rfl),
  He.mkr_ok (c.fact 95 (f := fun K => (He.Fa.mkr "Ring").ok K) rfl),
  noBase_of (c.fact 96 (f := noBaseF "Ring") rfl),
  of_decide_eq_true (c.fact 97 (f := kitF "Ring" "Ring" true) rfl),
  of_decide_eq_true (c.fact 98 (f := kitF "Ring" "Days" false) rfl),
  of_decide_eq_true (c.fact 99 (f := kitFT "Ring" "int" false) rfl),
  of_decide_eq_true (c.fact 100 (f := kitFT "Ring" "bool" false) rfl),
  of_decide_eq_true (c.fact 101 (f := kitFT "Ring" "str" false) rfl),
  of_decide_eq_true (c.fact 102 (f := kitFT "Ring" "list" false) rfl),
  of_decide_eq_true (c.fact 103 (f := kitFT "Ring" "tuple" false) rfl),
  of_decide_eq_true (c.fact 104 (f := kitFT "Ring" "ValueError" false) rfl),
  He.cls_ok (c.fact 105 (f := fun K => (He.Fa.cls "Days").ok K) rfl),
  insC_of (c.fact 106 (f := insB "Days") rfl),
  He.noat_ok (c.fact 107 (f := fun K => (He.Fa.noat "Days" "ring").ok K) rfl),
  He.noat_ok (c.fact 108 (f := fun K => (He.Fa.noat "Days" "since").ok K) rfl),
  He.noat_ok (c.fact 109 (f := fun K => (He.Fa.noat "Days" "till").ok K) rfl),
  He.noat_ok (c.fact 110 (f := fun K => (He.Fa.noat "Days" "out").ok K) rfl),
  He.noat_ok (c.fact 111 (f := fun K => (He.Fa.noat "Days" "also").ok K) rfl),
  He.meth_ok (c.fact 112 (f := fun K => (He.Fa.meth "Days" "__init__").ok K) rfl),
  He.meth_ok (c.fact 113 (f := fun K => (He.Fa.meth "Days" "__eq__").ok K) rfl),
  He.meth_ok (c.fact 114 (f := fun K => (He.Fa.meth "Days" "__str__").ok K) rfl),
  He.meth_ok (c.fact 115 (f := fun K => (He.Fa.meth "Days" "__repr__").ok K) rfl),
  He.meth_ok (c.fact 116 (f := fun K => (He.Fa.meth "Days" "has").ok K) rfl),
  He.meth_ok (c.fact 117 (f := fun K => (He.Fa.meth "Days" "first_from").ok K) rfl),
  He.meth_ok (c.fact 118 (f := fun K => (He.Fa.meth "Days" "how_many").ok K) rfl),
  He.meth_ok (c.fact 119 (f := fun K => (He.Fa.meth "Days" "among").ok K) rfl),
  He.mkr_ok (c.fact 120 (f := fun K => (He.Fa.mkr "Days").ok K) rfl),
  noBase_of (c.fact 121 (f := noBaseF "Days") rfl),
  of_decide_eq_true (c.fact 122 (f := kitF "Days" "Ring" false) rfl),
  of_decide_eq_true (c.fact 123 (f := kitF "Days" "Days" true) rfl),
  of_decide_eq_true (c.fact 124 (f := kitFT "Days" "int" false) rfl),
  of_decide_eq_true (c.fact 125 (f := kitFT "Days" "bool" false) rfl),
  of_decide_eq_true (c.fact 126 (f := kitFT "Days" "str" false) rfl),
  of_decide_eq_true (c.fact 127 (f := kitFT "Days" "list" false) rfl),
  of_decide_eq_true (c.fact 128 (f := kitFT "Days" "tuple" false) rfl),
  of_decide_eq_true (c.fact 129 (f := kitFT "Days" "ValueError" false) rfl),
  of_decide_eq_true (c.fact 130 (f := kitBF "int" "Ring" false) rfl),
  of_decide_eq_true (c.fact 131 (f := kitBF "bool" "Ring" false) rfl),
  of_decide_eq_true (c.fact 132 (f := kitBF "str" "Ring" false) rfl),
  of_decide_eq_true (c.fact 133 (f := kitBF "NoneType" "Ring" false) rfl),
  of_decide_eq_true (c.fact 134 (f := kitBF "list" "Ring" false) rfl),
  of_decide_eq_true (c.fact 135 (f := kitBF "tuple" "Ring" false) rfl),
  of_decide_eq_true (c.fact 136 (f := kitBF "dict" "Ring" false) rfl),
  of_decide_eq_true (c.fact 137 (f := kitBF "int" "Days" false) rfl),
  of_decide_eq_true (c.fact 138 (f := kitBF "bool" "Days" false) rfl),
  of_decide_eq_true (c.fact 139 (f := kitBF "str" "Days" false) rfl),
  of_decide_eq_true (c.fact 140 (f := kitBF "NoneType" "Days" false) rfl),
  of_decide_eq_true (c.fact 141 (f := kitBF "list" "Days" false) rfl),
  of_decide_eq_true (c.fact 142 (f := kitBF "tuple" "Days" false) rfl),
  of_decide_eq_true (c.fact 143 (f := kitBF "dict" "Days" false) rfl),
  excC_of (c.fact 144 (f := excCB "NoDays") rfl),
  of_decide_eq_true (c.fact 145 (f := kitF "NoDays" "GoingError" true) rfl),
  of_decide_eq_true (c.fact 146 (f := kitF "NoDays" "LackError" false) rfl),
  of_decide_eq_true (c.fact 147 (f := kitF "NoDays" "BookError" false) rfl),
  of_decide_eq_true (c.fact 148 (f := kitF "NoDays" "NoTime" false) rfl),
  of_decide_eq_true (c.fact 149 (f := kitF "NoDays" "NoPiece" false) rfl),
  of_decide_eq_true (c.fact 150 (f := kitF "NoDays" "NoDays" true) rfl),
  of_decide_eq_true (c.fact 151 (f := kitF "NoDays" "NoCard" false) rfl),
  of_decide_eq_true (c.fact 152 (f := kitF "NoDays" "NoName" false) rfl),
  of_decide_eq_true (c.fact 153 (f := kitF "NoDays" "NoRow" false) rfl),
  of_decide_eq_true (c.fact 154 (f := kitF "NoDays" "NoText" false) rfl),
  of_decide_eq_true (c.fact 155 (f := kitFT "NoDays" "ValueError" true) rfl),
  of_decide_eq_true (c.fact 156 (f := kitFT "NoDays" "LookupError" false) rfl),
  of_decide_eq_true (c.fact 157 (f := kitFT "NoDays" "RuntimeError" false) rfl),
  of_decide_eq_true (c.fact 158 (f := exm3F "NoDays" ["GoingError", "LackError", "BookError"]) rfl),
  c.def_ 0 (d := d__wall) rfl,
  c.def_ 1 (d := d_NoText_init) rfl,
  c.def_ 2 (d := d_is_whole) rfl,
  c.def_ 3 (d := d_is_moment) rfl,
  c.def_ 4 (d := d_are_figures) rfl,
  c.def_ 5 (d := d_want_day) rfl,
  c.def_ 6 (d := d_are_signs) rfl,
  c.def_ 7 (d := d_Ring_init) rfl,
  c.def_ 8 (d := d_Ring_eq) rfl,
  c.def_ 9 (d := d_Ring_len) rfl,
  c.def_ 10 (d := d_Ring_str) rfl,
  c.def_ 11 (d := d_Ring_repr) rfl,
  c.def_ 12 (d := d_Ring_rings) rfl,
  c.def_ 13 (d := d_Ring_least) rfl,
  c.def_ 14 (d := d_told_days) rfl,
  c.def_ 15 (d := d_want_till) rfl,
  c.def_ 16 (d := d_Days_init) rfl,
  c.def_ 17 (d := d_Days_eq) rfl,
  c.def_ 18 (d := d_Days_str) rfl,
  c.def_ 19 (d := d_Days_repr) rfl,
  c.def_ 20 (d := d_Days_has) rfl,
  c.def_ 21 (d := d_Days_first_from) rfl,
  c.def_ 22 (d := d_Days_how_many) rfl,
  c.def_ 23 (d := d_Days_among) rfl,
  c.def_ 24 (d := d_edges_of) rfl,
  c.def_ 25 (d := d_stretches) rfl,
  c.def_ 26 (d := d_first_days) rfl,
  c.def_ 27 (d := d_common_round) rfl,
  c.def_ 28 (d := d_first_apart) rfl,
  c.def_ 29 (d := d_day_in) rfl,
  c.def_ 30 (d := d_days_of) rfl,
  c.def_ 31 (d := d_read_days) rfl,
  c.def_ 32 (d := d__law_pot) rfl,
  c.def_ 33 (d := d__law_take) rfl,
  c.def_ 34 (d := d__law_great) rfl,
  c.def_ 35 (d := d__law_bits) rfl,
  c.def_ 36 (d := d__law_near) rfl,
  c.def_ 37 (d := d__law_few) rfl,
  c.def_ 38 (d := d__law_some) rfl,
  c.def_ 39 (d := d__law_written) rfl,
  c.def_ 40 (d := d__law_signs) rfl,
  c.def_ 41 (d := d__law_signs_spoilt) rfl,
  c.def_ 42 (d := d__law_spoilt) rfl,
  c.def_ 43 (d := d__law_odd) rfl,
  c.def_ 44 (d := d__law_number) rfl,
  c.def_ 45 (d := d__law_list) rfl,
  c.def_ 46 (d := d__law_parts) rfl,
  c.def_ 47 (d := d__law_read) rfl,
  c.def_ 48 (d := d__law_told) rfl,
  c.def_ 49 (d := d__law_right) rfl,
  c.def_ 50 (d := d_law) rfl⟩
end Toy
open PySem PySem.W PySem.Calls PyProof.Rows
set_option maxRecDepth 100000 in
set_option maxHeartbeats 0 in
theorem PySem.Challenge.cw_shortgoings_k46_texts_of_no_days_holds : PySem.Challenge.rw_shortgoings_k46_texts_of_no_days.Holds := by
  w_on; o_law
  refine HandSHeadRun.head_any (r := OpenLaw.row PySem.Challenge.rw_shortgoings_k46_texts_of_no_days) (q := view (OpenLaw.row PySem.Challenge.rw_shortgoings_k46_texts_of_no_days).prog [60]) (H := Toy.hk) (ob := Toy.ob) (M := 8000) (loose := Toy.nss) (d := HandSHeadRun.topDef (OpenLaw.row PySem.Challenge.rw_shortgoings_k46_texts_of_no_days).prog 60) (kwd := []) Toy.ob_eq
    (by kernel_rfl) (fun s => by kernel_rfl) Toy.run (by kernel_rfl) (by kernel_rfl) (by kernel_rfl) (by rfl) (by first | assumption | decide +kernel) (by decide +kernel) ⟨rfl, rfl, rfl, rfl, rfl, by decide +kernel⟩ ?hw ?hc
  case hw => w_witness2
  case hc =>
    refine L3.walk_end (l := PySem.Challenge.rw_shortgoings_k46_texts_of_no_days) (n := 63) (k := 11) (x := "_law_script") rfl (by decide) (by kernel_rfl) (L3.rm_caller.mono (by decide)) ?F
    intro w mg fa h Y G hmg0
    obtain ⟨K, KX, c⟩ := Y
    have hmg : mg ("law" : PySem.Str) = some (.ref fa) := by
      have e : (HandSHeadRun.topDef (OpenLaw.row PySem.Challenge.rw_shortgoings_k46_texts_of_no_days).prog 60).name = ("law" : PySem.Str) := by kernel_rfl
      rw [← e]
      exact hmg0
    have T := Toy.env_of KX G c
    have e := hmg.symm.trans T.g_law
    cases e
    obtain ⟨fd, F⟩ := T.f_law
    have b := L2.FunD.bindsA (ps := ["_law_script"]) F fun _ _ _ _ _ _ us hl => match us, hl with | [_], _ => rfl
    exact ⟨K, fd, Toy.sp_law K, KX, fun s v => b s [v] rfl, fun H a ns hl hS => ⟨a, ns, rfl, hS, hl, fun _ => rfl⟩, fun base _ _ => Toy.ok_law T F⟩
