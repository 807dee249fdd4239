import PyProof.Rows.All
import Wide.All
import OpenK.AllK
import Wide.FinOn
import PyProof.EqAt
import PyProof.EqKinds
import PyProof.TupleCall
import HandS.ForMost
import HandS.ForExc
import HandS.Defaults
import HandS.MakeKwOnly
import HandS.WideBits
import HandS.IsInst
import HandS.Flow
import HandS.Style
import HandS.Evl
import HandS.StrMore
import HandS.TupAny
import HandS.SortInts
import HandS.RaiseMore
import HandS.Zip
import HandS.Head0
import HandS.Head1
import HandS.Head2
import HandS.HeadEnd
import HandS.HeadHook1
import HandS.HeadHook2
import HandS.Walk
import PyProof.Rows.StrJoinRep
import PyProof.StrLawsLast
import HandS.Codes
import HandS.ExcIs
import KE.KTryMore
import KE.KFmtOwn
import PyProof.InstSpecial
import HandS.TryOnly
import HandS.FStr
import HandS.Conv
import HandS.SetFor
import HandS.Strs
import HandS.OwnEq
import HandS.Deep
import PySem.Challenge.RW_shortgoings_k21_times_over
set_option Elab.async false
set_option linter.all false
set_option maxRecDepth 100000
set_option maxHeartbeats 4000000
namespace L3
open PySem PySem.Spec PyProof.Rows L2
/-! ### room, with the guards of repr told -/
structure Rm (k : Nat) (A : Around) : Prop where
  rm : Room k A
  gd : A.guards = some []
theorem Rm.mono {j k : Nat} {A : Around} (r : Rm k A) (h : j ≤ k) : Rm j A := ⟨r.rm.mono h, r.gd⟩
theorem Rm.deeper {k : Nat} {A : Around} (r : Rm (k + 1) A) (env : Env) : Rm k (A.deeper env) := ⟨r.rm.deeper env, r.gd⟩
theorem make_guards {A : Around} {C : Addr} {us : List Value} {kw : List (Str × Value)} : (A.under (.builtin "type.__call__" ⟨.ref C :: us, kw⟩)).guards = A.guards := by
  have e : Code.guards (.builtin "type.__call__" ⟨.ref C :: us, kw⟩) = [] := by
    first | rfl | simp [Code.guards, Code.isGuard, guardIds]
  show pushGuards (Code.guards (.builtin "type.__call__" ⟨.ref C :: us, kw⟩)) A.guards = A.guards
  rw [e]
  cases A.guards <;> rfl
theorem Rm.make {k : Nat} {A : Around} (r : Rm (k + 1) A) (C : Addr) (us : List Value) (kw : List (Str × Value)) : Rm k (A.under (.builtin "type.__call__" ⟨.ref C :: us, kw⟩)) :=
  ⟨r.rm.make C us kw, make_guards.trans r.gd⟩
/-! ### a def's body -/
structure Fb (P : Program) (w : World) (K : PySem.W.Frag) (mg : Str → Option Value) (base : Heap) (k : Nat) (f : Addr) (fd : FuncData) (ps : List Str) (sp : Sp) : Prop where
  len : ∀ vs H Q E, sp vs H Q E → vs.length = ps.length
  run : ∀ (A : Around) (outer : List Env) (s : Shared) (H : Hp) (args : Args) (us : List Value) (vs : List V) (Q : VK) (E : XK), Rm k A → Env0 P w K mg base A outer s H → BindsTo s fd args (ps.zip us) → Vals vs us → sp vs H Q E →
    codeAny (model P w) A (.call (.ref f) args) (CR (L2.CX P w) outer P w H s Q E) s
section
variable {P : Program} {w : World} {K : PySem.W.Frag} {mg : Str → Option Value} {base : Heap} {x qual : Str} {params : Arguments} {body : List Stmt} {scope : Scope} {dvs : List V} {kws : List (Str × V)} {f : Addr} {fd : FuncData} {k : Nat} {ps N : List Str} {sp : Sp}
theorem fb_of (F : FunD K x qual params body scope dvs kws f fd) (S : FnScope N ps scope) (len : ∀ vs H Q E, sp vs H Q E → vs.length = ps.length)
    (hbody : ∀ (cdv : Value) (A : Around) (outer : List Env) (s : Shared) (H : Hp) (vs : List V) (Q : VK) (E : XK), Rm k (A.deeper (envOfC qual scope s.heap.objs.size f cdv)) → sp vs H Q E →
      ∃ t, PSs (cxOf (L2.CX P w) P w K mg base N qual scope f cdv A outer s H E) body t ∧ t { nx := fun _ H' => Q .non H', rt := Q } (start N vs) H) : Fb P w K mg base (k + 1) f fd ps sp := by
  obtain ⟨oc, od, dV, kV, doc, pm, an, cdv, ct, osl, rfl, lk, hcd, _, _⟩ := F.ex
  refine ⟨len, fun A outer s H args us vs Q E hr e0 hb r hsp => ?_⟩
  have hl := len _ _ _ _ hsp
  have KX : K.In s.heap := e0.mod.kin.keeps fun b o e => (e0.bs b o e).1
  have lim : s.heap.NoLimit := e0.mod.nolimit.keeps fun b o e => (e0.bs b o e).1
  have hkind : ∀ y ∈ ps.zip us, scope.names.lookup y.1 = some .local ∨ (scope.names.lookup y.1 = some .cell ∧ ((cellsFrom (s.heap.objs.size + 1) scope.names []).lookup y.1).isSome = true) := fun ⟨n, v⟩ hy => by
    rcases S.par n (List.of_mem_zip hy).1 with q | q
    · exact .inl q
    · exact .inr ⟨q, PySem.W.cellsFrom_some _ _ _ (.inl q)⟩
  refine codeAny_call_function hr.rm.depth (KX _ _ lk) rfl S.co S.gen rfl (PySem.W.codeRec_of KX hcd) (hb _ _ _ _ ?_)
  refine wpAny_newFunctionEnv_cells S.kind hkind fun env he s1 x => ?_
  subst he
  refine ⟨lim.keeps x.toInCall.keep, codeAny_func ?_⟩
  obtain ⟨t, ht, hq⟩ := hbody cdv A outer s H vs Q E (hr.deeper _) hsp
  have I : Inv (cxOf (L2.CX P w) P w K mg base N qual scope f cdv A outer s H E) [] (start N vs) H s1 := inv_start S hr.rm.hd e0 hl r x
  refine wpAny_mono (ht.run [] s1 (start N vs) H _ I hq) (fun fl s' hs => ?_) fun e s' hs => hs
  have fin : ∀ {σ' : L2.St} {H' : Hp} {v : V} {u : Value}, Inv (cxOf (L2.CX P w) P w K mg base N qual scope f cdv A outer s H E) [] σ' H' s' → RelV v u → Q v H' → CE outer P w H s Q u s' :=
    fun {σ' H' v u} J rv q => ⟨v, H', J.os, J.bare, J.base, J.hok, rv, q⟩
  cases fl with
  | ret u =>
    obtain ⟨v, σ', H', J, rv, q⟩ := hs
    exact fin J rv q
  | next =>
    obtain ⟨σ', H', J, q⟩ := hs
    exact fin (v := V.non) (u := Value.none) J rfl q
  | brk =>
    obtain ⟨_, _, _, q⟩ := hs
    exact False.elim q
  | cont =>
    obtain ⟨_, _, _, q⟩ := hs
    exact False.elim q
theorem Fb.mono {j : Nat} (F : Fb P w K mg base j f fd ps sp) (h : j ≤ k) : Fb P w K mg base k f fd ps sp := ⟨F.len, fun A outer s H args us vs Q E hr => F.run A outer s H args us vs Q E (hr.mono h)⟩
theorem Fb.imp {sp' : Sp} (F : Fb P w K mg base k f fd ps sp) (h : ∀ vs H Q E, sp' vs H Q E → sp vs H Q E) : Fb P w K mg base k f fd ps sp' :=
  ⟨fun vs H Q E q => F.len vs H Q E (h _ _ _ _ q), fun A outer s H args us vs Q E hr he hb hv hs => F.run A outer s H args us vs Q E hr he hb hv (h _ _ _ _ hs)⟩
/-! ### a call of one shape: positional values us, keywords ks -/
def Fc (P : Program) (w : World) (K : PySem.W.Frag) (mg : Str → Option Value) (base : Heap) (k : Nat) (f : Addr) (ks : List Str) (sp : Sp) : Prop :=
  ∀ (A : Around) (outer : List Env) (s : Shared) (H : Hp) (us ws : List Value) (vs : List V) (Q : VK) (E : XK), Rm k A → Env0 P w K mg base A outer s H → Vals vs (us ++ ws) → ws.length = ks.length → sp vs H Q E →
    codeAny (model P w) A (.call (.ref f) ⟨us, ks.zip ws⟩) (CR (L2.CX P w) outer P w H s Q E) s
theorem Fc.mono {j : Nat} {ks : List Str} (F : Fc P w K mg base j f ks sp) (h : j ≤ k) : Fc P w K mg base k f ks sp := fun A outer s H us ws vs Q E hr => F A outer s H us ws vs Q E (hr.mono h)
theorem Fc.imp {sp' : Sp} {ks : List Str} (F : Fc P w K mg base k f ks sp) (h : ∀ vs H Q E, sp' vs H Q E → sp vs H Q E) : Fc P w K mg base k f ks sp' :=
  fun A outer s H us ws vs Q E hr he hv hl hs => F A outer s H us ws vs Q E hr he hv hl (h _ _ _ _ hs)
/-- every parameter is given by place -/
theorem Fb.all (F : Fb P w K mg base k f fd ps sp) (hb : Binds K fd ps []) : Fc P w K mg base k f [] sp := fun A outer s H us ws vs Q E hr e0 r hl h => by
  cases ws with
  | cons w ws => cases hl
  | nil =>
    rw [List.append_nil] at r
    have KX : K.In s.heap := e0.mod.kin.keeps fun b o e => (e0.bs b o e).1
    have l2 : us.length = ps.length := by rw [← r.length]; exact F.len _ _ _ _ h
    have b := hb s us KX (by rw [List.append_nil]; exact l2)
    rw [List.append_nil] at b
    exact F.run A outer s H ⟨us, []⟩ us vs Q E hr e0 b r h
/-- some by place, some by name, some left out: g puts the given ones and the defaults into the parameters' order -/
theorem Fb.shape (D : FunD K x qual params body scope dvs kws f fd) (F : Fb P w K mg base k f fd ps sp) (n : Nat) (ks : List Str) (g : {α : Type} → List α → List α → List α) (hd : dvs ≠ [])
    (hrel : ∀ {vs ds : List V} {us its : List Value}, Vals vs us → Vals ds its → Vals (g vs ds) (g us its))
    (h : ∀ (T : Addr) (kV doc pm : Value) (an : Option Addr) (cdv ct : Value) (us ws its : List Value), us.length = n → ws.length = ks.length → its.length = dvs.length →
      ∃ k, bindArgs (PySem.W.fnOf x qual params body scope (.ref T) kV doc pm an cdv ct) ⟨us, ks.zip ws⟩ = seqItems? (.ref T) >>= k ∧ k (some its.toArray) = pure (ps.zip (g (us ++ ws) its))) :
    Fc P w K mg base k f ks (fun vs H Q E => vs.length = n + ks.length ∧ sp (g vs dvs) H Q E) := by
  obtain ⟨oc, od, dV, kV, doc, pm, an, cdv, ct, osl, rfl, lk, hcd, hD, hK⟩ := D.ex
  rcases hD with ⟨e, _⟩ | ⟨_, T, o, its, m, rfl, lT, oT, rT⟩
  · exact absurd e hd
  · intro A outer s H us ws vs Q E hr e0 r hl hsp
    have KX : K.In s.heap := e0.mod.kin.keeps fun b o e => (e0.bs b o e).1
    have l1 : its.length = dvs.length := rT.length.symm
    have l2 : us.length = n := by
      have e := r.length
      rw [hsp.1, List.length_append, hl] at e
      omega
    obtain ⟨k, e1, e2⟩ := h T kV doc pm an cdv ct us ws its l2 hl l1
    refine F.run A outer s H ⟨us, ks.zip ws⟩ (g (us ++ ws) its) (g vs dvs) Q E hr e0 (BindsTo.of_looks fun M => ?_) (hrel r rT) hsp.2
    rw [e1]
    exact looks_items KX lT oT (.of_pure e2)
/-- all parameters given, some by name, no defaults -/
theorem Fb.names (D : FunD K x qual params body scope [] kws f fd) (F : Fb P w K mg base k f fd ps sp) (n : Nat) (ks : List Str) (g : {α : Type} → List α → List α)
    (hrel : ∀ {vs : List V} {us : List Value}, Vals vs us → Vals (g vs) (g us))
    (h : ∀ (kV doc pm : Value) (an : Option Addr) (cdv ct : Value) (us ws : List Value), us.length = n → ws.length = ks.length →
      bindArgs (PySem.W.fnOf x qual params body scope .none kV doc pm an cdv ct) ⟨us, ks.zip ws⟩ = pure (ps.zip (g (us ++ ws)))) :
    Fc P w K mg base k f ks (fun vs H Q E => vs.length = n + ks.length ∧ sp (g vs) H Q E) := by
  obtain ⟨oc, od, dV, kV, doc, pm, an, cdv, ct, osl, rfl, lk, hcd, hD, hK⟩ := D.ex
  rcases hD with ⟨_, rfl⟩ | ⟨e, _⟩
  · intro A outer s H us ws vs Q E hr e0 r hl hsp
    have l2 : us.length = n := by
      have e := r.length
      rw [hsp.1, List.length_append, hl] at e
      omega
    exact F.run A outer s H ⟨us, ks.zip ws⟩ (g (us ++ ws)) (g vs) Q E hr e0 (.of_eq (h kV doc pm an cdv ct us ws l2 hl)) (hrel r) hsp.2
  · exact absurd rfl e
end
/-! ### calls -/
def tFc (sp : Sp) (W : WX) (t : TA) : TE := fun σ H Q => t σ H fun vs H1 => sp vs H1 Q (WE W σ)
def tFk (sp : Sp) (W : WX) (t tk : TA) : TE := fun σ H Q => t σ H fun vs H1 => tk σ H1 fun zs H2 => zs.length = zs.length ∧ sp (vs ++ zs) H2 Q (WE W σ)
section
variable {X : Cx} {k : Nat} {f C : Addr} {ks : List Str} {sp : Sp} {W : WX} {x m : Str} {p pos apos : Pos} {e o : Expr} {es : List Expr} {kws : List Keyword} {ta : TE} {t tk : TA}
theorem run_fc {pins : List (Addr × Obj)} {σ : L2.St} {H : Hp} {s : Shared} {Q : VK} {us ws : List Value} {vs : List V} (F : Fc X.prog X.w X.K X.mg X.base k f ks sp) (hr : Rm k X.A) (hx : Takes X W)
    (I : Inv X pins σ H s) (r : Vals vs (us ++ ws)) (hl : ws.length = ks.length) (h : sp vs H Q (WE W σ)) : wpAny (model X.prog X.w) X.A (call (.ref f) us (ks.zip ws)) (EP X pins σ Q) X.xe s := by
  refine wpAny_call (codeAny_mono (F X.A X.stack s H us ws vs Q (WE W σ) hr I.env0 r hl h) fun r s' hq => ?_)
  cases r with
  | error e => exact passAt hx σ pins H s e s' I hq
  | ok fl =>
    cases fl with
    | ret u => exact I.after hq
    | next => exact False.elim hq
    | brk => exact False.elim hq
    | cont => exact False.elim hq
/-- f(e, ..) -/
theorem c_call (F : Fc X.prog X.w X.K X.mg X.base k f [] sp) (hr : Rm k X.A) (hm : X.mg x = some (.ref f)) (hk : PySem.W.keepIn X.K (.ref f) = true) (hx : Takes X W)
    (ha : PA X (e :: es) t) (hg : Gl X x := by rfl) (hdb : (x == ("__debug__" : Str)) = false := by decide) (he : starEach (e :: es) X.env = (false, eval e X.env) :: starEach es X.env := by rfl) (hpl : (backTo pos (starEach es X.env)).any (·.1) = false := by rfl) :
    PE X (.Call (.Name x p) (e :: es) [] pos) (tFc sp W t) := by
  refine ⟨fun pins s σ H Q I h => ?_⟩
  refine wpAny_Call_Name_kw (ld_glob I hg hm ?_ hdb)
  refine PySem.W.callWith_K (h₀ := X.base) I.ok.mod.kin hk (thn (ha.run pos pins s σ H _ I h) fun us s1 ⟨vs, H1, I1, r, q⟩ => ⟨I1.kIn, ?_⟩) he hpl
  exact run_fc (ws := []) F hr hx I1 (by rw [List.append_nil]; exact r) rfl q
/-- f() -/
theorem c_call0 (F : Fc X.prog X.w X.K X.mg X.base k f [] sp) (hr : Rm k X.A) (hm : X.mg x = some (.ref f)) (hk : PySem.W.keepIn X.K (.ref f) = true) (hx : Takes X W)
    (hg : Gl X x := by rfl) (hdb : (x == ("__debug__" : Str)) = false := by decide) : PE X (.Call (.Name x p) [] [] pos) (tFc sp W tNil) := by
  refine ⟨fun pins s σ H Q I h => ?_⟩
  refine wpAny_Call_Name_kw (ld_glob I hg hm ?_ hdb)
  exact PySem.W.callWith_K0 I.kIn hk (run_fc (us := []) (ws := []) F hr hx I .nil rfl h)
/-- f(e, .., k = v, ..) -/
theorem c_callK (F : Fc X.prog X.w X.K X.mg X.base k f ks sp) (hr : Rm k X.A) (hm : X.mg x = some (.ref f)) (hk : PySem.W.keepIn X.K (.ref f) = true) (hx : Takes X W)
    (ha : PA X (e :: es) t) (hkw : PK X kws tk) (hg : Gl X x := by rfl) (hall : (backToKw pos (keywordEach kws X.env)).all (·.1.isSome) = true := by rfl) (hks : (backToKw pos (keywordEach kws X.env)).filterMap (·.1) = ks := by rfl)
    (hdb : (x == ("__debug__" : Str)) = false := by decide) (he : starEach (e :: es) X.env = (false, eval e X.env) :: starEach es X.env := by rfl)
    (hpl : ((backTo pos (starEach (e :: es) X.env)).any (·.1) || (backToKw pos (keywordEach kws X.env)).any (·.1.isNone)) = false := by rfl) :
    PE X (.Call (.Name x p) (e :: es) kws pos) (fun σ H Q => t σ H fun vs H1 => tk σ H1 fun zs H2 => zs.length = ks.length ∧ sp (vs ++ zs) H2 Q (WE W σ)) := by
  refine ⟨fun pins s σ H Q I h => ?_⟩
  refine wpAny_Call_Name_kw (ld_glob I hg hm ?_ hdb)
  refine PySem.W.callWith_KW (h₀ := X.base) I.ok.mod.kin hk hall (thn (ha.run pos pins s σ H _ I h) fun us s1 ⟨vs, H1, I1, r, q⟩ => ?_) hpl he
  refine thn (hkw.run pos pins s1 σ H1 _ I1 q) fun ws s2 ⟨zs, H2, I2, rz, l2, q2⟩ => ⟨I2.kIn, ?_⟩
  rw [hks]
  exact run_fc F hr hx I2 (r.append rz) (rz.length.symm.trans l2) q2
/-- f(k = v, ..) -/
theorem c_callK0 (F : Fc X.prog X.w X.K X.mg X.base k f ks sp) (hr : Rm k X.A) (hm : X.mg x = some (.ref f)) (hk : PySem.W.keepIn X.K (.ref f) = true) (hx : Takes X W)
    (hkw : PK X kws tk) (hg : Gl X x := by rfl) (hall : (backToKw pos (keywordEach kws X.env)).all (·.1.isSome) = true := by rfl) (hks : (backToKw pos (keywordEach kws X.env)).filterMap (·.1) = ks := by rfl)
    (hdb : (x == ("__debug__" : Str)) = false := by decide)
    (hpl : ((backTo pos (starEach [] X.env)).any (·.1) || (backToKw pos (keywordEach kws X.env)).any (·.1.isNone)) = false := by rfl) :
    PE X (.Call (.Name x p) [] kws pos) (fun σ H Q => tk σ H fun zs H2 => zs.length = ks.length ∧ sp zs H2 Q (WE W σ)) := by
  refine ⟨fun pins s σ H Q I h => ?_⟩
  refine wpAny_Call_Name_kw (ld_glob I hg hm ?_ hdb)
  refine PySem.W.callWith_KW0 (h₀ := X.base) I.ok.mod.kin hk hall ?_ hpl
  refine thn (hkw.run pos pins s σ H _ I h) fun ws s2 ⟨zs, H2, I2, rz, l2, q2⟩ => ⟨I2.kIn, ?_⟩
  rw [hks]
  exact run_fc (us := []) F hr hx I2 rz (rz.length.symm.trans l2) q2
end
/-! ### repr of data -/
@[irreducible] def rRepr (K : PySem.W.Frag) : List V → Hp → VK → Prop := fun xs H Q => ∃ (a : Addr) (d : PyData), xs = [.ref a] ∧ Dp K H (.ref a) d ∧ d.hasDict = false ∧ d.showable = true ∧ d.depth ≤ 60 ∧ d.shown.length ≤ sizeLine ∧ Q (.str d.shown) H
theorem call_repr {X : Cx} {k : Nat} (hr : Rm k X.A) : CallR X (.builtin "repr") (rRepr X.K) := by
  intro pins s σ H xs us Q I r h
  unfold rRepr at h
  obtain ⟨a, d, rfl, hd, hnd, hs, hdp, hsz, q⟩ := h
  cases r with
  | cons r1 r2 =>
    cases r2
    obtain ⟨as, rd⟩ := Dp.reads I d (.ref a) _ hd r1
    obtain rfl : _ = Value.ref a := r1
    refine repr_of_reads' rd hs (PyData.noDict_hsm hnd) hr.gd (by have := hr.rm.un; omega) (fun _ _ e => e) (fun h' u tk hk => ?_) hsz
    exact ⟨.str d.shown, H, I.kept hk, ⟨u, rfl⟩, q⟩
/-! ### the law's end -/
theorem rm_caller : Rm 40 callerA := ⟨⟨rfl, by decide, by decide⟩, rfl⟩
section
variable {P : Program} {w : World} {K : PySem.W.Frag} {mg mb : Str → Option Value} {k : Nat} {fa a : Addr} {fd : FuncData} {x : Str} {sp : Sp} {s₁ : Shared} {vs : List Value} {ns : List Int}
/-- the law's call over one abstract heap, in which at most the script is tracked -/
theorem law_core (H : Hp) (KX : K.In s₁.heap) (hns : s₁.heap.Ns mainGlobals mg) (hb : s₁.heap.Ns builtinsNs mb) (hbb : ∀ x : Str, x ≠ "__name__" → mb x = bootBuiltins x) (hlim : s₁.heap.NoLimit) (hg : s₁.gens = #[])
    (ha : s₁.heap.get? a = some { cls := .type "list", data := .seq vs.toArray }) (hr : Rm k callerA)
    (F : ∀ base : Heap, K.In base → base.Ns mainGlobals mg → Fb P w K mg base k fa fd [x] sp) (hbind : ∀ (s : Shared) (u : Value), BindsTo s fd ⟨[u], []⟩ [(x, u)])
    (hO : Only H) (hsp : sp [.ref a] H (fun v _ => v = .bl true) fun _ _ _ => False) (hok : HOk P w H s₁.heap) (hA : ∀ b, H b ≠ none → b = a) (hK : H a ≠ none → K.lookup a = none) :
    codeAny (model P w) callerA (.call (.ref fa) ⟨[.ref a], []⟩) (fun r s' => r = .ok (.ret (.bool true)) ∧ OldK s₁.heap s'.heap ∧ s'.os = s₁.os ∧ AllBare s'.gens) s₁ := by
  have isA : ∀ {b : Addr} {u : HO}, H b = some u → b = a := fun {b u} q => hA b (fun z => nomatch (q.symm.trans z))
  have free : ∀ {b : Addr} {o : Obj} {es : Array DictEntry} {ep : Nat}, s₁.heap.get? b = some o → o.data = .dict es ep → H b = none := fun {b o es ep} e d => by
    cases q : H b with
    | none => rfl
    | some u =>
      have eb := isA q
      subst eb
      rw [ha] at e
      cases e
      cases (show Data.seq vs.toArray _ = Data.dict es ep from d)
  have nsK : ∀ {b : Addr} {m : Str → Option Value}, s₁.heap.Ns b m → (hidT s₁.heap H).Ns b m := fun {b m} ⟨o, es, ep, e, d, r⟩ => ⟨o, es, ep, hidT_get e (free e d), d, r⟩
  have inK : K.In (hidT s₁.heap H) := fun b o e => hidT_get (KX b o e) (by
    cases q : H b with
    | none => rfl
    | some u =>
      have eb := isA q
      subst eb
      rw [hK (fun z => nomatch (q.symm.trans z))] at e
      cases e)
  have hM : Mod K mg (hidT s₁.heap H) := ⟨inK, nsK hns, ⟨mb, nsK hb, hbb⟩, let ⟨mc, h1, h2⟩ := hlim; ⟨mc, nsK h1, h2⟩⟩
  have e0 : Env0 P w K mg (hidT s₁.heap H) callerA [] s₁ H := ⟨rfl, hM, fun b o e => of_hidT e, Nat.le_of_eq (hidT_size _ _), trivial, (fun b z => nomatch (show b ∈ ([] : List Addr) from z)), hok, .of_eq hg⟩
  refine codeAny_mono ((F _ inK (nsK hns)).run callerA [] s₁ H ⟨[.ref a], []⟩ [.ref a] [.ref a] _ _ hr e0 (hbind s₁ (.ref a)) (.cons rfl .nil) hsp) fun r s' h => ?_
  cases r with
  | error e =>
    obtain ⟨_, _, _, _, _, _, _, _, _, _, _, _, z⟩ := h
    exact z.elim
  | ok fl =>
    cases fl with
    | next => exact h.elim
    | brk => exact h.elim
    | cont => exact h.elim
    | ret u =>
      obtain ⟨v, H', os, bare, un, hok2, rv, rfl⟩ := h
      obtain rfl : u = Value.bool true := rv
      refine ⟨rfl, OldK.of_keep fun b o e => ?_, os, bare⟩
      cases q : H b with
      | none => exact un.keep b o e q (fun z => nomatch (show b ∈ ([] : List Addr) from z)) (fun z => nomatch z)
      | some u =>
        rcases hO b with z | ⟨ob, xs, z⟩
        · exact nomatch (q.symm.trans z)
        · have e1 := (hok b _ z).1
          have e2 := (hok2 b _ (un.frzs b ob _ z)).1
          rw [e] at e1
          cases e1
          exact e2
theorem law_end (KX : K.In s₁.heap) (hns : s₁.heap.Ns mainGlobals mg) (hb : s₁.heap.Ns builtinsNs mb) (hbb : ∀ x : Str, x ≠ "__name__" → mb x = bootBuiltins x) (hlim : s₁.heap.NoLimit) (hg : s₁.gens = #[])
    (ha : s₁.heap.get? a = some { cls := .type "list", data := .seq vs.toArray }) (hi : IntsAre vs ns) (hl : ns.length ≤ sizeLine) (hr : Rm k callerA)
    (F : ∀ base : Heap, K.In base → base.Ns mainGlobals mg → Fb P w K mg base k fa fd [x] sp) (hbind : ∀ (s : Shared) (u : Value), BindsTo s fd ⟨[u], []⟩ [(x, u)])
    (hsp : ∀ H : Hp, SqL K H a (ns.map V.int) → sp [.ref a] H (fun v _ => v = .bl true) fun _ _ _ => False) :
    codeAny (model P w) callerA (.call (.ref fa) ⟨[.ref a], []⟩) (fun r s' => r = .ok (.ret (.bool true)) ∧ OldK s₁.heap s'.heap ∧ s'.os = s₁.os ∧ AllBare s'.gens) s₁ := by
  have rv := vals_ints hi
  cases hk : K.lookup a with
  | some o =>
    have e := KX a o hk
    rw [ha] at e
    cases e
    have sq : SqL K (fun _ => none) a (ns.map V.int) := .inr ⟨_, vs.toArray, _, hk, rfl, rfl, rfl, by rw [List.size_toArray, hi.length]; exact hl, by simpa using rv⟩
    exact law_core (fun _ => none) KX hns hb hbb hlim hg ha hr F hbind (fun _ => .inl rfl) (hsp _ sq) (fun b u z => nomatch (show (none : Option HO) = some u from z)) (fun b z => absurd rfl z) fun z => absurd rfl z
  | none =>
    have h1 : ∀ b, b ≠ a → (upd (fun _ => none) a (.frz { cls := .type "list", data := .seq vs.toArray } (.lst (ns.map V.int)))) b = none := fun b n => upd_ne n
    refine law_core (upd (fun _ => none) a (.frz { cls := .type "list", data := .seq vs.toArray } (.lst (ns.map V.int)))) KX hns hb hbb hlim hg ha hr F hbind (fun b => ?_) (hsp _ (.inl (.inr ⟨_, upd_same⟩))) (fun b u z => ?_) (fun b z => ?_) fun _ => hk
    · by_cases n : b = a
      · subst n
        exact .inr ⟨_, _, upd_same⟩
      · exact .inl (h1 b n)
    · by_cases n : b = a
      · subst n
        rw [upd_same] at z
        cases z
        exact ⟨ha, by rw [List.length_map]; exact hl, vs, _, rv, ha⟩
      · rw [h1 b n] at z
        cases z
    · by_cases n : b = a
      · exact n
      · exact absurd (h1 b n) z
end
theorem walk_end {l : PySem.W.OpenLaw} {n k : Nat} {q : Program} {loose : List Str} {XP : (Str → Option Value) → Heap → Prop} {YP : World → Heap → Prop} {d : DefRec} {x : Str}
    (hn : l.most = some n) (hn2 : n ≤ sizeLine) (hdf : d.params.defaults = []) (hr : Rm k callerA)
    (F : ∀ (w : World) (mg : Str → Option Value) (fa : Addr) (h : Heap), YP w h → h.Ns mainGlobals mg → mg d.name = some (.ref fa) →
      ∃ (K : PySem.W.Frag) (fd : FuncData) (sp : Sp), K.In h ∧ (∀ (s : Shared) (u : Value), BindsTo s fd ⟨[u], []⟩ [(x, u)]) ∧
        (∀ (H : Hp) (a : Addr) (ns : List Int), ns.length ≤ n → SqL K H a (ns.map V.int) → sp [.ref a] H (fun v _ => v = .bl true) fun _ _ _ => False) ∧
        ∀ base : Heap, K.In base → base.Ns mainGlobals mg → Fb l.prog w K mg base k fa fd [x] sp) :
    PySem.W.WalkO q loose XP YP l.row.toRowW d [] (fun f vs => PySem.call f vs) := by
  refine Att.attach_call hn hdf fun w s₀ s₁ mg mb fa o pm cd doc a vs ns G Y ho hd hcd hmg hobj hints hlen hg => ?_
  obtain ⟨K, fd, sp, KX, hb, hsp, hF⟩ := F w mg fa _ Y G.T.g hmg
  exact law_end KX G.T.g G.T.b G.T.builtins G.T.nolimit hg hobj hints (Nat.le_trans hlen hn2) hr hF hb (fun H hS => hsp H a ns hlen hS)
end L3
set_option Elab.async false
set_option linter.all false
set_option maxRecDepth 100000
set_option maxHeartbeats 4000000
namespace L3
open PySem PySem.Spec PyProof.Rows L2
/-! ### the head's facts: any Bools of the written part, and the defs -/
abbrev Fx := PySem.W.Frag → Bool
def obsX (xf : List Fx) (fn : List He.DefD) (K : PySem.W.Frag) : He.AlD := ((xf.all fun p => p K) && fn.all fun d => d.ok K, fn.map fun d => He.fnW K d.at_)
def SaysX (xf : List Fx) (fn : List He.DefD) (K : PySem.W.Frag) : Prop := obsX xf fn K = He.valD fn
def obsXG (n : Nat) (xf : List Fx) (fn : List He.DefD) (g : Addr → Option Obj) : He.AlD := obsX xf fn (He.frG g (sysModules :: He.asD g n))
def hookX (n : Nat) (xf : List Fx) (fn : List He.DefD) : PySem.W.Hook where
  α := He.AlD
  obs := fun s => obsXG n xf fn s.heap.get?
  val := fun _ => He.valD fn
  says := fun _ h => ∃ K : PySem.W.Frag, K.In h ∧ SaysX xf fn K
  of := fun _ _ e => ⟨_, He.frG_in, e⟩
  keeps := fun _ _ _ ⟨K, hK, c⟩ k => ⟨K, PySem.W.Frag.In.keeps hK k, c⟩
theorem obsXG_eq {n : Nat} {xf : List Fx} {fn : List He.DefD} {g : Addr → Option Obj} {s : Shared} (h : ∀ a, g a = s.heap.get? a) : obsXG n xf fn g = (hookX n xf fn).obs s := by
  have e : g = s.heap.get? := funext h
  rw [e] <;> rfl
section
variable {xf : List Fx} {fn : List He.DefD} {K : PySem.W.Frag}
theorem SaysX.fact (c : SaysX xf fn K) (i : Nat) {f : Fx} (h : xf[i]? = some f := by rfl) : f K = true := by
  have c1 := (He.ba (show ((xf.all fun f => f K) && fn.all fun d => d.ok K) = true from congrArg (fun z : He.AlD => z.1) c)).1
  exact List.all_eq_true.mp c1 f (List.mem_of_getElem? h)
theorem SaysX.def_ (c : SaysX xf fn K) (i : Nat) {d : He.DefD} (h : fn[i]? = some d := by rfl) : ∃ fd, FunD K d.name d.qual d.params d.body d.scope (d.dvs K) (d.kws K) (He.fAd K d.at_) fd := by
  have c2 := (He.ba (show ((xf.all fun f => f K) && fn.all fun d => d.ok K) = true from congrArg (fun z : He.AlD => z.1) c)).2
  have e : fn.map (fun d => He.fnW K d.at_) = fn.map He.DefD.val := congrArg (fun z : He.AlD => z.2) c
  have e2 : (fn.map fun d => He.fnW K d.at_)[i]? = (fn.map He.DefD.val)[i]? := by rw [e]
  rw [List.getElem?_map, List.getElem?_map, h] at e2
  exact He.DefD.funD (Option.some.inj e2) (List.all_eq_true.mp c2 d (List.mem_of_getElem? h))
end
/-! ### an own exception class without __init__ -/
structure Exo (K : PySem.W.Frag) (C : Addr) (bmB : List Value) (newId : String) : Prop where
  x : PySem.W.excIn K C bmB newId = true
  kp : PySem.W.keepIn K (.ref C) = true
  sub : PySem.W.subIn K (.ref C) (.type "BaseException") = some true
  ty : PySem.W.typeIn K (.ref C) = some (.type "type")
abbrev bmV : List Value := [.type "ValueError", .type "Exception", .type "BaseException", .type "object"]
abbrev bmL : List Value := [.type "LookupError", .type "Exception", .type "BaseException", .type "object"]
abbrev bmR : List Value := [.type "RuntimeError", .type "Exception", .type "BaseException", .type "object"]
def exoB (bmB : List Value) (newId : String) (x : Str) : Fx := fun K => PySem.W.excIn K (He.ga K x) bmB newId && (PySem.W.keepIn K (.ref (He.ga K x)) && (decide (PySem.W.subIn K (.ref (He.ga K x)) (.type "BaseException") = some true) && decide (PySem.W.typeIn K (.ref (He.ga K x)) = some (.type "type"))))
theorem exo_of {bmB : List Value} {newId : String} {x : Str} {K : PySem.W.Frag} (h : exoB bmB newId x K = true) : Exo K (He.ga K x) bmB newId := by
  obtain ⟨h1, h⟩ := He.ba h
  obtain ⟨h2, h⟩ := He.ba h
  obtain ⟨h3, h4⟩ := He.ba h
  exact ⟨h1, h2, of_decide_eq_true h3, of_decide_eq_true h4⟩
section
variable {K : PySem.W.Frag} {h : Heap} {mg : Str → Option Value}
theorem gint_of (X : K.In h) (G : h.Ns mainGlobals mg) {x : Str} {i : Int} (c : (He.Fa.int x i).ok K = true) : ∃ u, mg x = some u ∧ RelV (.int i) u := by
  obtain ⟨t, e⟩ := He.int_ok X G c
  exact ⟨_, e, ⟨t, rfl⟩⟩
theorem gstr_of (X : K.In h) (G : h.Ns mainGlobals mg) {x z : Str} (c : (He.Fa.str x z).ok K = true) : ∃ u, mg x = some u ∧ RelV (.str z) u := by
  obtain ⟨t, e⟩ := He.str_ok X G c
  exact ⟨_, e, ⟨t, rfl⟩⟩
end
/-- a module's constant -/
theorem pe_k {X : Cx} {x : Str} {v : V} {pos : Pos} (h : ∃ u, X.mg x = some u ∧ RelV v u) (hg : Gl X x := by rfl) (hdb : (x == ("__debug__" : Str)) = false := by decide) : PE X (.Name x pos) (tC v) := by
  obtain ⟨u, e, r⟩ := h
  exact pe_glob hg e r hdb
end L3
set_option Elab.async false
set_option linter.all false
set_option maxRecDepth 100000
set_option maxHeartbeats 4000000
namespace L3
open PySem PySem.Spec PyProof.Rows L2
/-! ### heaps that grow -/
abbrev Ex (H H' : Hp) : Prop := Same H H'
theorem ex_new {H : Hp} {p : Addr} {o : HO} (h : H p = none) : Ex H (upd H p o) := fun a u e => by
  rw [upd_ne (ne_of_none e h)]
  exact e
/-- an object that H does not know may change -/
theorem ex_mut {H H' : Hp} {p : Addr} {o : HO} (e : Ex H H') (h : H p = none) : Ex H (upd H' p o) := fun a u ha => by
  rw [upd_ne (ne_of_none ha h)]
  exact e a u ha
theorem ex_sql {K : PySem.W.Frag} {H H' : Hp} {a : Addr} {xs : List V} (e : Ex H H') (h : SqL K H a xs) : SqL K H' a xs := Same.seq e h
theorem ex_sqt {K : PySem.W.Frag} {H H' : Hp} {a : Addr} {xs : List V} (e : Ex H H') (h : SqT K H a xs) : SqT K H' a xs := by
  rcases h with (h | ⟨o, h⟩) | h
  · exact .inl (.inl (e _ _ h))
  · exact .inl (.inr ⟨o, e _ _ h⟩)
  · exact .inr h
theorem ex_fresh {H H' : Hp} {p : Addr} (e : Ex H H') (h : H' p = none) : H p = none := Same.free e h
theorem sq_lst {K : PySem.W.Frag} {H : Hp} {a : Addr} {xs : List V} (h : H a = some (.lst xs)) : SqL K H a xs := .inl (.inl h)
theorem sq_tup {K : PySem.W.Frag} {H : Hp} {a : Addr} {xs : List V} (h : H a = some (.tup xs)) : SqT K H a xs := .inl (.inl h)
/-! ### whole numbers, moments -/
/-- a value of a known type -/
def isW : V → Bool
  | .int _ => true
  | _ => false
def isM : V → Bool
  | .int i => decide (0 ≤ i)
  | _ => false
def isB (n : Int) : V → Bool
  | .int i => decide (0 ≤ i) && decide (i < n)
  | _ => false
def Cl (K : PySem.W.Frag) (H : Hp) (x : V) : Prop := ∃ t b c, TyX K H x t ∧ PySem.W.kitOne K t (.type "int") = some b ∧ PySem.W.kitOne K t (.type "bool") = some c ∧ isW x = (b && !c)
section
variable {K : PySem.W.Frag} {H : Hp}
theorem cl_int (i : Int) : Cl K H (.int i) := ⟨_, true, false, .base (.int i), kit_ty (by decide +kernel), kit_ty (by decide +kernel), rfl⟩
theorem cl_bl (b : Bool) : Cl K H (.bl b) := ⟨_, true, true, .base (.bl b), kit_ty (by decide +kernel), kit_ty (by decide +kernel), rfl⟩
theorem cl_non : Cl K H .non := ⟨_, false, false, .base .non, kit_ty (by decide +kernel), kit_ty (by decide +kernel), rfl⟩
theorem cl_str (z : Str) : Cl K H (.str z) := ⟨_, false, false, .base (.str z), kit_ty (by decide +kernel), kit_ty (by decide +kernel), rfl⟩
theorem kit_list : PySem.W.kitOne K (.type "list") (.type "int") = some false ∧ PySem.W.kitOne K (.type "list") (.type "bool") = some false := ⟨kit_ty (by decide +kernel), kit_ty (by decide +kernel)⟩
theorem kit_tuple : PySem.W.kitOne K (.type "tuple") (.type "int") = some false ∧ PySem.W.kitOne K (.type "tuple") (.type "bool") = some false := ⟨kit_ty (by decide +kernel), kit_ty (by decide +kernel)⟩
theorem kit_dict : PySem.W.kitOne K (.type "dict") (.type "int") = some false ∧ PySem.W.kitOne K (.type "dict") (.type "bool") = some false := ⟨kit_ty (by decide +kernel), kit_ty (by decide +kernel)⟩
theorem cl_lst {a : Addr} {xs : List V} (e : H a = some (.lst xs)) : Cl K H (.ref a) := ⟨_, false, false, .base (.lst e), kit_list.1, kit_list.2, rfl⟩
theorem cl_tup {a : Addr} {xs : List V} (e : H a = some (.tup xs)) : Cl K H (.ref a) := ⟨_, false, false, .base (.tup e), kit_tuple.1, kit_tuple.2, rfl⟩
theorem cl_dK {a : Addr} {kvs : List (Key × V)} (e : H a = some (.dK kvs)) : Cl K H (.ref a) := ⟨_, false, false, .base (.dK e), kit_dict.1, kit_dict.2, rfl⟩
end
theorem isM_w {x : V} (h : isM x = true) : ∃ i, x = .int i ∧ 0 ≤ i := by
  cases x with
  | int i => exact ⟨i, rfl, of_decide_eq_true h⟩
  | _ => cases h
theorem isW_w {x : V} (h : isW x = true) : ∃ i, x = .int i := by
  cases x with
  | int i => exact ⟨i, rfl⟩
  | _ => cases h
theorem isM_f {x : V} (h : isW x = false) : isM x = false := by
  cases x with
  | int i => cases h
  | _ => rfl
/-- given values and defaults in the parameters' order -/
def pick {α : Type} (ix : List (Sum Nat Nat)) (us its : List α) : List α := ix.filterMap fun j => match j with
  | .inl i => us[i]?
  | .inr i => its[i]?
theorem pick_vals {vs ds : List V} {us its : List Value} (ix : List (Sum Nat Nat)) (r1 : Vals vs us) (r2 : Vals ds its) : Vals (pick ix vs ds) (pick ix us its) := by
  have one : ∀ {vs : List V} {us : List Value} (i : Nat), Vals vs us → (∃ v u, vs[i]? = some v ∧ us[i]? = some u ∧ RelV v u) ∨ (vs[i]? = none ∧ us[i]? = none) := fun {vs us} i r => by
    cases e : vs[i]? with
    | none => exact .inr ⟨rfl, r.none_of e⟩
    | some v =>
      obtain ⟨u, h1, h2⟩ := r.get e
      exact .inl ⟨v, u, rfl, h1, h2⟩
  induction ix with
  | nil => exact .nil
  | cons j ix ih =>
    unfold pick at ih ⊢
    cases j with
    | inl i =>
      rcases one i r1 with ⟨v, u, h1, h2, h3⟩ | ⟨h1, h2⟩
      · simp only [List.filterMap_cons, h1, h2]
        exact .cons h3 ih
      · simp only [List.filterMap_cons, h1, h2]
        exact ih
    | inr i =>
      rcases one i r2 with ⟨v, u, h1, h2, h3⟩ | ⟨h1, h2⟩
      · simp only [List.filterMap_cons, h1, h2]
        exact .cons h3 ih
      · simp only [List.filterMap_cons, h1, h2]
        exact ih
end L3
namespace L3
open PySem PySem.Spec PyProof.Rows L2
/-! ### texts of data -/
theorem log_of {n : Nat} (h : n < 10 ^ 200) : n.log2 < 1920 := PySem.Flt.log2_lt_of (by decide) (Nat.lt_trans h (by decide +kernel))
/-- data that repr shows, without dicts: whole numbers of at most 500 figures, texts of any signs -/
def okI (i : Int) : Bool := decide (i.natAbs < 10 ^ 200)
def okT (x : Str) : Bool := x.cps.toList.all fun c => decide (c < 16 ^ 8)
mutual
def okD : PyData → Bool
  | .none => true
  | .bool _ => true
  | .int i => okI i
  | .str x => okT x
  | .list xs => okL xs
  | .tuple xs => okL xs
  | .dict _ => false
def okL : List PyData → Bool
  | [] => true
  | x :: xs => okD x && okL xs
end
mutual
def szD : PyData → Nat
  | .none => 4
  | .bool _ => 5
  | .int _ => 1921
  | .str x => 10 * x.length + 2
  | .list xs => szL xs + 3
  | .tuple xs => szL xs + 3
  | .dict _ => 0
def szL : List PyData → Nat
  | [] => 0
  | x :: xs => szD x + 2 + szL xs
end
mutual
theorem okD_tells : ∀ d : PyData, okD d = true → d.hasDict = false ∧ d.showable = true ∧ d.shown.length ≤ szD d
  | .none, _ => ⟨rfl, rfl, Nat.le_refl _⟩
  | .bool b, _ => ⟨rfl, rfl, by cases b <;> decide⟩
  | .int i, h => by
    have h1 : i.natAbs < 10 ^ 200 := of_decide_eq_true (show decide (i.natAbs < 10 ^ 200) = true from h)
    exact ⟨rfl, decide_eq_true (log_of h1), int_text_len_1921 (log_of h1)⟩
  | .str x, h => by
    have h1 : ∀ c ∈ x.cps.toList, c < 16 ^ 8 := fun c hc => of_decide_eq_true (List.all_eq_true.mp h c hc)
    exact ⟨rfl, rfl, StrLaws.reprText_len x h1⟩
  | .list xs, h => by
    obtain ⟨h1, h2, h3⟩ := okL_tells xs h
    refine ⟨h1, h2, Nat.le_trans (listText_len_le (PyData.shownAll xs)) ?_⟩
    have e := PyData.shownAll_length xs
    show _ ≤ szL xs + 3
    omega
  | .tuple xs, h => by
    obtain ⟨h1, h2, h3⟩ := okL_tells xs h
    refine ⟨h1, h2, Nat.le_trans (tupleText_len_le (PyData.shownAll xs)) ?_⟩
    have e := PyData.shownAll_length xs
    show _ ≤ szL xs + 3
    omega
  | .dict _, h => by cases h
theorem okL_tells : ∀ xs : List PyData, okL xs = true → PyData.hasDictAll xs = false ∧ PyData.showableAll xs = true ∧ ((PyData.shownAll xs).map (·.length)).sum + 2 * xs.length ≤ szL xs
  | [], _ => ⟨rfl, rfl, Nat.le_refl _⟩
  | x :: xs, h => by
    obtain ⟨g1, g2⟩ := He.ba (show (okD x && okL xs) = true from h)
    obtain ⟨h1, h2, h3⟩ := okD_tells x g1
    obtain ⟨k1, k2, k3⟩ := okL_tells xs g2
    refine ⟨?_, ?_, ?_⟩
    · show (x.hasDict || PyData.hasDictAll xs) = false
      rw [h1, k1]
      rfl
    · show (x.showable && PyData.showableAll xs) = true
      rw [h2, k2]
      rfl
    · show (x.shown.length + ((PyData.shownAll xs).map (·.length)).sum) + 2 * (xs.length + 1) ≤ szD x + 2 + szL xs
      omega
end
/-- repr of a list, a tuple -/
theorem rr_data {K : PySem.W.Frag} {H : Hp} {a : Addr} {d : PyData} {Q : VK} (h : Dp K H (.ref a) d) (ho : okD d = true) (hz : szD d ≤ 16000000) (hd : d.depth ≤ 60) (q : Q (.str d.shown) H) : rRepr K [.ref a] H Q := by
  obtain ⟨h1, h2, h3⟩ := okD_tells d ho
  unfold rRepr
  exact ⟨a, d, rfl, h, h1, h2, hd, Nat.le_trans h3 (Nat.le_trans hz (by rw [sizeLine_eq]; decide)), q⟩
section
variable {K : PySem.W.Frag} {H : Hp} {a : Addr} {ns : List Int} {Q : VK}
theorem dpAll_ints (K : PySem.W.Frag) (H : Hp) : ∀ ns : List Int, DpAll K H (ns.map V.int) (ns.map PyData.int)
  | [] => .nil
  | n :: ns => .cons (.int n) (dpAll_ints K H ns)
theorem ints_ok : ∀ ns : List Int, (∀ n ∈ ns, okI n = true) → okL (ns.map PyData.int) = true
  | [], _ => rfl
  | n :: ns, h => by
    show (okI n && okL (ns.map PyData.int)) = true
    rw [ints_ok ns fun m hm => h m (List.mem_cons_of_mem _ hm), h n List.mem_cons_self]
    rfl
theorem ints_sz : ∀ ns : List Int, szL (ns.map PyData.int) = 1923 * ns.length
  | [] => rfl
  | n :: ns => by
    show 1921 + 2 + szL (ns.map PyData.int) = 1923 * (ns.length + 1)
    rw [ints_sz ns]
    omega
theorem ints_depth : ∀ ns : List Int, PyData.depthAll (ns.map PyData.int) = 0
  | [] => rfl
  | n :: ns => by
    show max 0 (PyData.depthAll (ns.map PyData.int)) = 0
    rw [ints_depth ns]
    rfl
/-- the text of a list of whole numbers -/
def txtI (ns : List Int) : Str := PyData.shown (.list (ns.map PyData.int))
/-- repr(xs), xs a list of whole numbers -/
theorem rr_ints (h : SqL K H a (ns.map V.int)) (hs : ∀ n ∈ ns, okI n = true) (hl : ns.length ≤ 8000) (q : Q (.str (txtI ns)) H) : rRepr K [.ref a] H Q := by
  refine rr_data (.lst h (dpAll_ints K H ns)) (ints_ok ns hs) ?_ ?_ q
  · show szL (ns.map PyData.int) + 3 ≤ 16000000
    rw [ints_sz]
    omega
  · show PyData.depthAll (ns.map PyData.int) + 1 ≤ 60
    rw [ints_depth]
    decide
theorem okI_of {i : Int} (h1 : -(10 ^ 150) < i) (h2 : i < 10 ^ 150) : okI i = true := decide_eq_true (by
  have e : (10 : Nat) ^ 150 < 10 ^ 200 := by decide +kernel
  have e2 : i.natAbs < 10 ^ 150 := by omega
  exact Nat.lt_trans e2 e)
end
end L3
namespace L3
open PySem PySem.Spec PyProof.Rows L2
/-! ### all([f(x) for x in xs]), each answer True -/
section
variable {K : PySem.W.Frag} {a : Addr} {xs : List V} {g : TG} {tt : TT} {te : TE} {vs : List Nat} {σ : L2.St} {H1 : Hp} {D : Addr} {Qd : Hp → Prop}
theorem rep_snoc (n : Nat) : (List.replicate n true).map V.bl ++ [V.bl true] = (List.replicate (n + 1) true).map V.bl := by
  rw [List.replicate_succ', List.map_append]
  rfl
theorem small_len {n : Nat} (h : n ≤ 100000) : n < sizeLine := Nat.lt_of_le_of_lt h (by rw [sizeLine_eq]; decide)
abbrev Turn (g : TG) (tt : TT) (te : TE) (vs : List Nat) (σ : L2.St) (D : Addr) (x : V) (H : Hp) (N : Hp → Prop) : Prop :=
  g x (wipe σ vs) H fun σ2 H2 => wipe σ2 vs = wipe σ vs ∧ tt σ2 H2 fun b H3 => if b = true then te σ2 H3 fun y H4 => ∃ acc, H4 D = some (.lst acc) ∧ acc.length < sizeLine ∧ N (upd H4 D (.lst (acc ++ [y]))) else N H3
theorem lc_true_tup (I : Hp → Prop) (hI : ∀ H l, I H → I (upd H D (.lst l))) (i0 : I H1) (hx : xs.length ≤ 100000) (hl : ∀ H, I H → SqT K H a xs)
    (hs : ∀ (i : Nat) (x : V) (H : Hp) (acc : List V) (N : Hp → Prop), xs[i]? = some x → I H → H D = some (.lst acc) → acc.length < sizeLine → (∀ H4, I H4 → H4 D = some (.lst acc) → N (upd H4 D (.lst (acc ++ [.bl true])))) → Turn g tt te vs σ D x H N)
    (hd : ∀ H, I H → H D = some (.lst ((List.replicate xs.length true).map V.bl)) → Qd H) :
    ∃ W : Nat → Nat → Hp → Prop, (∃ m, W 0 m (upd H1 D (.lst []))) ∧ ∀ i m H, W i m H →
      ((Itt K a).stop i H ∧ Qd H) ∨ ((Itt K a).go i H ∧ ∃ Nx : Hp → Prop, (∀ H', Nx H' → ∃ m', m' < m ∧ W (i + 1) m' H') ∧ ∀ x H', (Itt K a).yld i H x H' → Turn g tt te vs σ D x H' Nx) := by
  refine lc_tup (fun i H => I H ∧ i ≤ xs.length ∧ H D = some (.lst ((List.replicate i true).map V.bl))) ⟨hI _ _ i0, Nat.zero_le _, upd_same⟩ (fun i H _ p => hl H p.1) ?_ (fun H p => hd H p.1 p.2.2)
  rintro i x H hi ⟨p1, p2, p3⟩
  have lt : i < xs.length := (List.getElem?_eq_some_iff.mp hi).1
  refine hs i x H _ _ hi p1 p3 ?_ fun H4 i4 d4 => ⟨hI _ _ i4, lt, by rw [upd_same, rep_snoc]⟩
  rw [List.length_map, List.length_replicate]
  exact small_len (by omega)
theorem lc_true_list (I : Hp → Prop) (hI : ∀ H l, I H → I (upd H D (.lst l))) (i0 : I H1) (hx : xs.length ≤ 100000) (hl : ∀ H, I H → SqL K H a xs)
    (hs : ∀ (i : Nat) (x : V) (H : Hp) (acc : List V) (N : Hp → Prop), xs[i]? = some x → I H → H D = some (.lst acc) → acc.length < sizeLine → (∀ H4, I H4 → H4 D = some (.lst acc) → N (upd H4 D (.lst (acc ++ [.bl true])))) → Turn g tt te vs σ D x H N)
    (hd : ∀ H, I H → H D = some (.lst ((List.replicate xs.length true).map V.bl)) → Qd H) :
    ∃ W : Nat → Nat → Hp → Prop, (∃ m, W 0 m (upd H1 D (.lst []))) ∧ ∀ i m H, W i m H →
      ((Itl K a).stop i H ∧ Qd H) ∨ ((Itl K a).go i H ∧ ∃ Nx : Hp → Prop, (∀ H', Nx H' → ∃ m', m' < m ∧ W (i + 1) m' H') ∧ ∀ x H', (Itl K a).yld i H x H' → Turn g tt te vs σ D x H' Nx) := by
  refine lc_list (fun i H => I H ∧ i ≤ xs.length ∧ H D = some (.lst ((List.replicate i true).map V.bl))) ⟨hI _ _ i0, Nat.zero_le _, upd_same⟩ (fun i H _ p => hl H p.1) ?_ (fun H p => hd H p.1 p.2.2)
  rintro i x H hi ⟨p1, p2, p3⟩
  have lt : i < xs.length := (List.getElem?_eq_some_iff.mp hi).1
  refine hs i x H _ _ hi p1 p3 ?_ fun H4 i4 d4 => ⟨hI _ _ i4, lt, by rw [upd_same, rep_snoc]⟩
  rw [List.length_map, List.length_replicate]
  exact small_len (by omega)
theorem all_rep (n : Nat) : (List.replicate n true).all id = true := by
  rw [List.all_eq_true]
  intro b hb
  exact (List.eq_of_mem_replicate hb)
end
end L3
namespace L3
open PySem PySem.Spec PyProof.Rows L2
/-! ### for k in range(max(1, min(len(script), most))) -/
abbrev turns (most : Int) (n : Nat) : Int := if (if most < (n : Int) then most else (n : Int)) > (1 : Int) then (if most < (n : Int) then most else (n : Int)) else (1 : Int)
theorem turns_lo (most : Int) (n : Nat) (h : 0 < most ∧ most ≤ 63) : -(2 ^ 62) ≤ turns most n := by
  unfold turns
  split <;> split <;> omega
theorem turns_hi (most : Int) (n : Nat) (h : 0 < most ∧ most ≤ 63) : turns most n < 2 ^ 62 := by
  unfold turns
  split <;> split <;> omega
theorem turns_lt {i : Nat} (most : Int) (n : Nat) (h : 0 < most ∧ most ≤ 63) (hi : i < (turns most n).toNat) : i < 1000 := by
  unfold turns at hi
  split at hi <;> split at hi <;> omega
end L3
set_option Elab.async false
set_option linter.all false
set_option maxRecDepth 100000
set_option maxHeartbeats 4000000
namespace L3
open PySem PySem.Spec PyProof.Rows L2 TL
/-! ### a comprehension whose i-th turn tells fm i -/
section
variable {J : It} {n : Nat} {G : Hp → Prop} {Y : Nat → Hp → V → Hp → Prop} {g : TG} {tt : TT} {te : TE} {vs : List Nat} {σ : L2.St} {H1 : Hp} {D : Addr} {Qd : Hp → Prop}
theorem range_fm_succ (fm : Nat → Option V) (i : Nat) : (List.range (i + 1)).filterMap fm = match fm i with
    | some y => (List.range i).filterMap fm ++ [y]
    | none => (List.range i).filterMap fm := by
  rw [List.range_succ, List.filterMap_append]
  cases e : fm i with
  | none => simp [e]
  | some y => simp [e]
theorem fm_len (fm : Nat → Option V) (i : Nat) : ((List.range i).filterMap fm).length ≤ i := by
  have := List.length_filterMap_le fm (List.range i)
  rwa [List.length_range] at this
theorem lc_fm (w : L2.Walk J n G Y) (fm : Nat → Option V) (I : Hp → Prop) (hI : ∀ H l, I H → I (upd H D (.lst l))) (i0 : I H1) (hn : n ≤ 100000) (hG : ∀ H, I H → G H)
    (hs : ∀ (i : Nat) (x : V) (H H' : Hp) (acc : List V) (N : Hp → Prop), i < n → I H → H D = some (.lst acc) → acc.length < sizeLine → Y i H x H' →
      (∀ H4, I H4 → H4 D = some (.lst acc) → match fm i with | some y => N (upd H4 D (.lst (acc ++ [y]))) | none => N H4) → Turn g tt te vs σ D x H' N)
    (hd : ∀ H, I H → H D = some (.lst ((List.range n).filterMap fm)) → Qd H) :
    ∃ W : Nat → Nat → Hp → Prop, (∃ m, W 0 m (upd H1 D (.lst []))) ∧ ∀ i m H, W i m H →
      (J.stop i H ∧ Qd H) ∨ (J.go i H ∧ ∃ Nx : Hp → Prop, (∀ H', Nx H' → ∃ m', m' < m ∧ W (i + 1) m' H') ∧ ∀ x H', J.yld i H x H' → Turn g tt te vs σ D x H' Nx) := by
  refine L2.lc_it w (fun i H => I H ∧ i ≤ n ∧ H D = some (.lst ((List.range i).filterMap fm))) ⟨hI _ _ i0, Nat.zero_le _, upd_same⟩ (fun i H _ p => hG H p.1) ?_ (fun H p => hd H p.1 p.2.2)
  rintro i x H H' hi ⟨p1, p2, p3⟩ y
  refine hs i x H H' _ _ hi p1 p3 (small_len (Nat.le_trans (fm_len fm i) (by omega))) y fun H4 i4 d4 => ?_
  have e := range_fm_succ fm i
  cases q : fm i with
  | none =>
    rw [q] at e
    exact ⟨i4, hi, by rw [e]; exact d4⟩
  | some y =>
    rw [q] at e
    exact ⟨hI _ _ i4, hi, by rw [upd_same, e]⟩
end
theorem range_map_get {α β : Type} (l : List α) (d : α) (f : α → β) : (List.range l.length).filterMap (fun i => some (f (l.getD i d))) = l.map f := by
  apply List.ext_getElem?
  intro i
  rw [List.filterMap_eq_map' (f := fun i => f (l.getD i d))]
  rw [List.getElem?_map, List.getElem?_map]
  by_cases h : i < l.length
  · rw [List.getElem?_range h, List.getElem?_eq_getElem h]
    simp [List.getD_eq_getElem?_getD, h]
  · rw [List.getElem?_eq_none (by simpa using h), List.getElem?_eq_none (by simpa using h)]
    rfl
/-! ### rules: rpartition, text * number -/
section
variable {X : Cx} {o e : Expr} {to te : TE}
theorem mt_rpartition : MtR X "str.rpartition" (fun x xs H Q => ∃ a b, x = .str a ∧ xs = [.str b] ∧ (b.length == 0) = false ∧ a.length ≤ sizeLine ∧
    ∀ p, H p = none → Q (.ref p) (upd H p (.tup [.str (Txt.rpartition a b).1, .str (Txt.rpartition a b).2.1, .str (Txt.rpartition a b).2.2]))) := by
  intro pins s σ H x xs v us Q I rx rs h
  obtain ⟨a, b, rfl, rfl, hb, hz, h⟩ := h
  obtain ⟨t, rfl⟩ := rx
  cases rs with
  | cons r1 rs =>
    cases rs
    obtain ⟨u, rfl⟩ := r1
    refine call_meets F.slot_str_rpartition (typeIs_str _ _ _) F.entry_str_rpartition (F.args_str_rpartition_2 _ _) (meets_str_rpartition a b t u hb hz) ?_
    unfold Txt.rpartition at h
    revert h
    cases Builtin.Str.lastOccurrence a b 0 a.length with
    | none => intro h; exact laid_parts I h
    | some i => intro h; exact laid_parts I h
theorem pe_rpartition {apos pos : Pos} (ho : PE X o to) (he : PE X e te) (hs : starEach [e] X.env = [(false, eval e X.env)] := by rfl) (hbase : attributeBase o "rpartition" X.env (eval o X.env) = eval o X.env := by rfl) (hline : (apos.endLine == pos.line) = true := by rfl) :
    PE X (.Call (.Attribute o "rpartition" apos) [e] [] pos) (tM1 (fun x xs H Q => ∃ a b, x = .str a ∧ xs = [.str b] ∧ (b.length == 0) = false ∧ a.length ≤ sizeLine ∧
      ∀ p, H p = none → Q (.ref p) (upd H p (.tup [.str (Txt.rpartition a b).1, .str (Txt.rpartition a b).2.1, .str (Txt.rpartition a b).2.2]))) to te) :=
  pe_m1 F.slot_str_rpartition F.type_str_rpartition mt_rpartition ho he hs hbase hline
/-- x * n, x a text of one sign -/
theorem op_repS : OpR X (binaryOp .Mult) (fun x y H Q => ∃ (a : Str) (n : Int), x = .str a ∧ y = .int n ∧ a.length ≤ 1000 ∧ 0 ≤ n ∧ n ≤ 10000 ∧ Q (.str (Txt.mul a n)) H) := by
  intro pins s σ H x y v u Q I rx ry h
  obtain ⟨a, n, rfl, rfl, ha, h0, h1, q⟩ := h
  obtain ⟨t, rfl⟩ := rx
  obtain ⟨t', rfl⟩ := ry
  refine SB.mul ⟨?_, fun z _ => ?_, fun z _ => ?_⟩ fun t' k => ⟨.str _, H, I.tok _, ⟨_, rfl⟩, q⟩
  · rw [decide_eq_false (by omega), decide_eq_false (by omega)]
    rfl
  · have hn : 0 < n := by omega
    have h2 : (a.length : Int) * n ≤ 1000 * 10000 := Int.mul_le_mul (by omega) h1 h0 (by decide)
    have h3 : (a.length : Int) ≤ (2 ^ 63 - 1) / n := Int.le_ediv_of_mul_le hn (by omega)
    omega
  · unfold Builtin.Str.tooLong
    rw [decide_eq_false]
    have h2 : a.length * n.toNat ≤ 1000 * 10000 := Nat.mul_le_mul ha (by omega)
    rw [sizeLine_eq]
    omega
end
end L3
set_option Elab.async false
set_option linter.all false
set_option maxRecDepth 100000
set_option maxHeartbeats 4000000
/-! Texts of numbers and moments, as lists of codes; no program here. -/
namespace Mo
open PySem TL
def isFig (c : Nat) : Bool := decide (48 ≤ c) && decide (c ≤ 57)
def figs (l : List Nat) : Bool := !l.isEmpty && l.all isFig
def val (l : List Nat) : Nat := NumText.digitsVal l
def num? (l : List Nat) : Option Nat := if figs l && !(decide (1 < l.length) && l.head? == some 48) then some (val l) else none
theorem isFig_iff {c : Nat} : isFig c = true ↔ 48 ≤ c ∧ c ≤ 57 := by
  unfold isFig
  rw [Bool.and_eq_true, decide_eq_true_eq, decide_eq_true_eq]
theorem all_digits {l : List Nat} (h : l.all isFig = true) : NumText.AllDigits l := fun c hc => isFig_iff.mp (List.all_eq_true.mp h c hc)
theorem all_fig {l : List Nat} (h : NumText.AllDigits l) : l.all isFig = true := List.all_eq_true.mpr fun c hc => isFig_iff.mpr (h c hc)
theorem figs_iff {l : List Nat} : figs l = true ↔ l ≠ [] ∧ NumText.AllDigits l := by
  unfold figs
  rw [Bool.and_eq_true]
  constructor
  · rintro ⟨h1, h2⟩
    exact ⟨(by rintro rfl; cases h1), all_digits h2⟩
  · rintro ⟨h1, h2⟩
    refine ⟨?_, all_fig h2⟩
    cases l with
    | nil => exact absurd rfl h1
    | cons a r => rfl
theorem figs_num (n : Nat) : figs (numL n) = true := figs_iff.mpr ⟨numL_ne n, numL_digits n⟩
theorem numL_head : ∀ n : Nat, 1 ≤ n → (numL n).head? ≠ some 48 := by
  intro n
  induction n using Nat.strongRecOn with
  | ind n ih =>
    intro h
    by_cases hn : n < 10
    · rw [numL_lt hn]
      simp
      omega
    · rw [numL_step (by omega)]
      have z := ih (n / 10) (by omega) (by omega)
      have y := numL_ne (n / 10)
      cases e : numL (n / 10) with
      | nil => exact absurd e y
      | cons a r =>
        rw [e] at z
        simpa using z
theorem numL_one {n : Nat} (h : 1 < (numL n).length) : 10 ≤ n := by
  by_cases hn : n < 10
  · rw [numL_lt hn] at h
    simp at h
  · omega
theorem val_num (n : Nat) : val (numL n) = n := numL_val n
theorem num_num (n : Nat) : num? (numL n) = some n := by
  unfold num?
  rw [figs_num, val_num]
  have e : (decide (1 < (numL n).length) && (numL n).head? == some 48) = false := by
    by_cases h : 1 < (numL n).length
    · have h2 := numL_head n (by have := numL_one h; omega)
      rw [decide_eq_true h]
      simpa using h2
    · rw [decide_eq_false h]
      rfl
  rw [e]
  rfl
theorem val_lt {l : List Nat} (h : NumText.AllDigits l) : NumText.digitsVal l < 10 ^ l.length := by
  have key : ∀ (l : List Nat) (a : Nat), NumText.AllDigits l → l.foldl (fun acc c => acc * 10 + (c - 48)) a < (a + 1) * 10 ^ l.length := by
    intro l
    induction l with
    | nil => intro a _; simp
    | cons c r ih =>
      intro a h
      have hc := h.head
      have z := ih (a * 10 + (c - 48)) h.tail
      rw [List.foldl_cons, List.length_cons, Nat.pow_succ]
      refine Nat.lt_of_lt_of_le z ?_
      have : (a * 10 + (c - 48) + 1) ≤ (a + 1) * 10 := by omega
      calc (a * 10 + (c - 48) + 1) * 10 ^ r.length ≤ (a + 1) * 10 * 10 ^ r.length := Nat.mul_le_mul_right _ this
        _ = (a + 1) * (10 ^ r.length * 10) := by rw [Nat.mul_assoc, Nat.mul_comm 10]
  have z := key l 0 h
  simpa [NumText.digitsVal] using z
/-! ### cut at the last sign -/
def rcut (c : Nat) : List Nat → Option (List Nat × List Nat)
  | [] => none
  | x :: r => match rcut c r with
    | some (h, t) => some (x :: h, t)
    | none => if x = c then some ([], r) else none
theorem rcut_none {c : Nat} : ∀ {l : List Nat}, c ∉ l → rcut c l = none
  | [], _ => rfl
  | x :: r, h => by
    have h1 : c ∉ r := fun z => h (List.mem_cons_of_mem _ z)
    have h2 : x ≠ c := fun z => h (by rw [z]; exact List.mem_cons_self)
    unfold rcut
    rw [rcut_none h1]
    exact if_neg h2
theorem rcut_some {c : Nat} : ∀ (p : List Nat) {q : List Nat}, c ∉ q → rcut c (p ++ c :: q) = some (p, q)
  | [], q, h => by
    show rcut c (c :: q) = some ([], q)
    unfold rcut
    rw [rcut_none h]
    exact if_pos rfl
  | x :: p, q, h => by
    show rcut c (x :: (p ++ c :: q)) = some (x :: p, q)
    unfold rcut
    rw [rcut_some p h]
theorem rcut_is {c : Nat} : ∀ {l p q : List Nat}, rcut c l = some (p, q) → l = p ++ c :: q ∧ c ∉ q
  | [], _, _, h => by cases h
  | x :: r, p, q, h => by
    unfold rcut at h
    cases e : rcut c r with
    | some z =>
      obtain ⟨h1, h2⟩ := z
      rw [e] at h
      cases h
      obtain ⟨e1, e2⟩ := rcut_is e
      exact ⟨by rw [e1]; rfl, e2⟩
    | none =>
      rw [e] at h
      by_cases hx : x = c
      · have h' : some (([] : List Nat), r) = some (p, q) := by rw [← h]; simp [hx]
        cases h'
        refine ⟨by rw [hx]; rfl, fun z => ?_⟩
        obtain ⟨a, b, eab⟩ := List.append_of_mem z
        -- the last c of r
        have key : ∀ l : List Nat, c ∈ l → rcut c l ≠ none := by
          intro l
          induction l with
          | nil => intro z; cases z
          | cons y l ih =>
            intro z w
            unfold rcut at w
            cases e2 : rcut c l with
            | some k => rw [e2] at w; cases w
            | none =>
              rw [e2] at w
              rcases List.mem_cons.mp z with rfl | z
              · simp at w
              · exact ih z e2
        exact key r z e
      · simp [hx] at h
theorem rcut_nin {c : Nat} : ∀ {l : List Nat}, rcut c l = none → c ∉ l := by
  intro l
  induction l with
  | nil => intro _ z; cases z
  | cons y l ih =>
    intro w z
    unfold rcut at w
    cases e2 : rcut c l with
    | some k => rw [e2] at w; cases w
    | none =>
      rw [e2] at w
      rcases List.mem_cons.mp z with rfl | z
      · simp at w
      · exact ih e2 z
theorem rpartition_S (a : List Nat) (c : Nat) : Txt.rpartition (SX.S a) (SX.S [c]) = match rcut c a with
    | some (p, q) => (SX.S p, SX.S [c], SX.S q)
    | none => (SX.S [], SX.S [], SX.S a) := by
  have hy : tl (SX.S [c]) ≠ [] := by simp
  have pr : ∀ i, pre (tl (SX.S [c])) ((tl (SX.S a)).drop i) = true ↔ a[i]? = some c := fun i => by
    show ((a.drop i).take 1 == [c]) = true ↔ _
    rw [beq_iff_eq]
    by_cases hi : i < a.length
    · have e1 : a.drop i = a[i] :: a.drop (i + 1) := List.drop_eq_getElem_cons hi
      rw [e1, List.getElem?_eq_getElem hi, List.take_succ_cons, List.take_zero]
      constructor
      · intro z
        injection z with z1
        rw [z1]
      · intro z
        injection z with z1
        rw [z1]
    · rw [List.drop_eq_nil_of_le (by omega), List.getElem?_eq_none (by omega)]
      simp
  unfold Txt.rpartition
  rcases StrLaws.last_spec (SX.S a) (SX.S [c]) with ⟨e, h⟩ | ⟨i, e, h, k⟩
  · rw [e]
    have hn : c ∉ a := fun z => by
      obtain ⟨i, hi, hc⟩ := List.getElem_of_mem z
      exact h i ((at_iff hy i).mpr ((pr i).mpr (by rw [List.getElem?_eq_getElem hi, hc])))
    rw [rcut_none hn]
    rfl
  · rw [e]
    have hi := (pr i).mp ((at_iff hy i).mp h)
    obtain ⟨lt, hc⟩ := List.getElem?_eq_some_iff.mp hi
    have hq : c ∉ a.drop (i + 1) := fun z => by
      obtain ⟨j, hj, hcj⟩ := List.getElem_of_mem z
      rw [List.length_drop] at hj
      refine k (i + 1 + j) (by omega) ((at_iff hy _).mpr ((pr _).mpr ?_))
      rw [List.getElem_drop] at hcj
      rw [List.getElem?_eq_getElem (by omega), hcj]
    have ea : a = a.take i ++ c :: a.drop (i + 1) := by
      rw [← hc, List.getElem_cons_drop, List.take_append_drop]
    have er : rcut c a = some (a.take i, a.drop (i + 1)) := by
      conv => lhs; rw [ea]
      exact rcut_some _ hq
    rw [er]
    show (Builtin.Str.strSub (SX.S a) 0 i, SX.S [c], Builtin.Str.strSub (SX.S a) (i + (SX.S [c]).length) (SX.S a).length) = (SX.S (a.take i), SX.S [c], SX.S (a.drop (i + 1)))
    have e1 : Builtin.Str.strSub (SX.S a) 0 i = SX.S (a.take i) := ext_tl (by rw [tl_strSub]; simp)
    have e2 : Builtin.Str.strSub (SX.S a) (i + (SX.S [c]).length) (SX.S a).length = SX.S (a.drop (i + 1)) := ext_tl (by rw [tl_strSub_end]; simp [SX.S_len])
    rw [e1, e2]
/-! ### cut at the first sign -/
theorem pre1 (c x : Nat) (r : List Nat) : pre [c] (x :: r) = decide (x = c) := by
  show ([x] == [c]) = decide (x = c)
  by_cases h : x = c
  · rw [h, decide_eq_true rfl]
    simp
  · rw [decide_eq_false h]
    simpa using h
theorem par_is {c : Nat} : ∀ {l acc p q : List Nat}, par [c] acc l = some (p, q) → ∃ p', p = acc ++ p' ∧ l = p' ++ c :: q ∧ c ∉ p'
  | [], _, _, _, h => by cases h
  | x :: r, acc, p, q, h => by
    by_cases hx : x = c
    · have e : pre [c] (x :: r) = true := by rw [pre1, decide_eq_true hx]
      rw [par_hit e] at h
      cases h
      exact ⟨[], by simp, by rw [hx]; rfl, by simp⟩
    · have e : pre [c] (x :: r) = false := by rw [pre1, decide_eq_false hx]
      rw [par_miss e] at h
      obtain ⟨p', e1, e2, e3⟩ := par_is h
      refine ⟨x :: p', by rw [e1]; simp, by rw [e2]; rfl, fun z => ?_⟩
      rcases List.mem_cons.mp z with z | z
      · exact hx z.symm
      · exact e3 z
theorem par_nin {c : Nat} : ∀ {l acc : List Nat}, par [c] acc l = none → c ∉ l
  | [], _, _ => by simp
  | x :: r, acc, h => by
    by_cases hx : x = c
    · have e : pre [c] (x :: r) = true := by rw [pre1, decide_eq_true hx]
      rw [par_hit e] at h
      cases h
    · have e : pre [c] (x :: r) = false := by rw [pre1, decide_eq_false hx]
      rw [par_miss e] at h
      intro z
      rcases List.mem_cons.mp z with z | z
      · exact hx z.symm
      · exact par_nin h z
/-! ### moments -/
def two (m : Nat) : List Nat := [48 + m / 10, 48 + m % 10]
def clk (m : Nat) : List Nat := numL (m % 1440 / 60) ++ 58 :: two (m % 60)
def shw (m : Nat) : List Nat := if m / 1440 = 0 then clk m else numL (m / 1440) ++ 32 :: clk m
def dayOf (l : List Nat) : Option Nat := match num? l with
  | some 0 => none
  | o => o
def clkOf (l : List Nat) : Option Nat := match par [58] [] l with
  | none => none
  | some (h, m) => if decide (m.length = 2) && figs m then (match num? h with
    | some k => if k < 24 ∧ val m < 60 then some (k * 60 + val m) else none
    | none => none) else none
def momOf (l : List Nat) : Option Nat := match rcut 32 l with
  | none => clkOf l
  | some (h, t) => match dayOf h with
    | none => none
    | some d => (clkOf t).map fun m => d * 1440 + m
theorem two_val {m : Nat} (h : m < 60) : figs (two m) = true ∧ val (two m) = m := by
  have all : ∀ m, m < 60 → (figs (two m) && decide (val (two m) = m)) = true := by decide +kernel
  have z := all m h
  rw [Bool.and_eq_true, decide_eq_true_eq] at z
  exact z
theorem clkOf_clk (m : Nat) : clkOf (clk m) = some (m % 1440) := by
  unfold clkOf clk
  have e := SX.par_head (c := 58) (sep := []) (two (m % 60)) (p := numL (m % 1440 / 60)) (numL_free (.inr (by decide)))
  rw [show numL (m % 1440 / 60) ++ 58 :: two (m % 60) = numL (m % 1440 / 60) ++ ([58] ++ two (m % 60)) from rfl]
  rw [show par [58] [] (numL (m % 1440 / 60) ++ ([58] ++ two (m % 60))) = some (numL (m % 1440 / 60), two (m % 60)) from e]
  obtain ⟨h1, h2⟩ := two_val (show m % 60 < 60 by omega)
  show (if decide ((two (m % 60)).length = 2) && figs (two (m % 60)) then _ else none) = _
  rw [h1, num_num, h2]
  have : m % 1440 / 60 < 24 ∧ m % 60 < 60 := by omega
  simp only [this, and_self, if_true, two]
  simp
  omega
theorem clk_free (m : Nat) : 32 ∉ clk m := by
  unfold clk
  intro z
  rcases List.mem_append.mp z with z | z
  · exact numL_free (.inl (by decide)) z
  · simp only [two, List.mem_cons, List.not_mem_nil, or_false] at z
    omega
theorem momOf_shw (m : Nat) : momOf (shw m) = some m := by
  unfold momOf shw
  by_cases h : m / 1440 = 0
  · rw [if_pos h, rcut_none (clk_free m), clkOf_clk]
    simp
    omega
  · rw [if_neg h, rcut_some _ (clk_free m)]
    have e : dayOf (numL (m / 1440)) = some (m / 1440) := by
      unfold dayOf
      rw [num_num]
      cases k : m / 1440 with
      | zero => exact absurd k h
      | succ j => rfl
    simp only [e, clkOf_clk]
    simp
    omega
theorem shw_len {m k : Nat} (hk : 0 < k) (h : m < 10 ^ k) : (shw m).length ≤ k + 8 := by
  have h1 : (numL (m % 1440 / 60)).length ≤ 2 := numL_len (by decide) (by omega)
  have h2 : (numL (m / 1440)).length ≤ k := numL_len hk (Nat.lt_of_le_of_lt (Nat.div_le_self _ _) h)
  unfold shw clk two
  split <;> simp <;> omega
theorem shw_inj {m n : Nat} (h : shw m = shw n) : m = n := by
  have e := momOf_shw m
  rw [h, momOf_shw] at e
  exact (Option.some.inj e).symm
end Mo
namespace Mo
open PySem TL L2
/-! ### slices -/
theorem cut_to (l : List Nat) (k : Nat) : cutS (SX.S l) none (some (k : Int)) = SX.S (l.take k) := by
  unfold cutS
  rw [HT.sIx_nat, HT.sIx_none]
  refine ext_tl ?_
  show (l.drop 0).take (min k (SX.S l).length - 0) = l.take k
  rw [SX.S_len, List.drop_zero, Nat.sub_zero, List.take_eq_take_iff]
  omega
theorem cut_from (l : List Nat) (k : Nat) : cutS (SX.S l) (some (k : Int)) none = SX.S (l.drop k) := by
  unfold cutS
  rw [HT.sIx_nat, HT.sIx_none]
  refine ext_tl ?_
  show (l.drop (min k (SX.S l).length)).take ((SX.S l).length - min k (SX.S l).length) = l.drop k
  rw [SX.S_len]
  by_cases h : k ≤ l.length
  · rw [Nat.min_eq_left h]
    exact List.take_of_length_le (by rw [List.length_drop]; omega)
  · rw [Nat.min_eq_right (by omega), List.drop_eq_nil_of_le (Nat.le_refl _), List.drop_eq_nil_of_le (by omega)]
    simp
theorem cut_mid (l : List Nat) (i j : Nat) : cutS (SX.S l) (some (i : Int)) (some (j : Int)) = SX.S ((l.drop i).take (j - i)) := by
  unfold cutS
  rw [HT.sIx_nat, HT.sIx_nat]
  refine ext_tl ?_
  show (l.drop (min i (SX.S l).length)).take (min j (SX.S l).length - min i (SX.S l).length) = (l.drop i).take (j - i)
  rw [SX.S_len]
  by_cases h : i ≤ l.length
  · rw [Nat.min_eq_left h, List.take_eq_take_iff, List.length_drop]
    omega
  · rw [Nat.min_eq_right (by omega : l.length ≤ i), List.drop_eq_nil_of_le (Nat.le_refl _), List.drop_eq_nil_of_le (by omega : l.length ≤ i)]
    simp
end Mo
namespace Mo
open PySem TL L2
/-! ### split at one sign -/
theorem spl_ne (S : List Nat) : ∀ (k : Nat) (acc l : List Nat), spl S k acc l ≠ []
  | k, acc, [] => by rw [spl_nil]; simp
  | 0, acc, c :: r => by
    unfold spl
    split
    · simp
    · exact spl_ne S 0 _ r
  | k + 1, acc, c :: r => by
    unfold spl
    exact spl_ne S k acc r
theorem first_of {c : Nat} : ∀ {l : List Nat}, c ∈ l → ∃ p q, l = p ++ c :: q ∧ c ∉ p
  | x :: r, h => by
    by_cases hx : x = c
    · exact ⟨[], r, by rw [hx]; rfl, by simp⟩
    · rcases List.mem_cons.mp h with h | h
      · exact absurd h.symm hx
      · obtain ⟨p, q, e, n⟩ := first_of h
        refine ⟨x :: p, q, by rw [e]; rfl, fun z => ?_⟩
        rcases List.mem_cons.mp z with z | z
        · exact hx z.symm
        · exact n z
theorem spl_cut {c : Nat} {p : List Nat} (q : List Nat) (h : c ∉ p) : spl [c] 0 [] (p ++ c :: q) = p :: spl [c] 0 [] q := by
  have e := spl_part1 (s := c) (S := []) (rest := q) (acc := []) h
  simpa using e
theorem spl_one {c : Nat} {p : List Nat} (h : c ∉ p) : spl [c] 0 [] p = [p] := by
  have e := spl_last1 (s := c) (S := []) (acc := []) h
  simpa using e
theorem spl_two {c : Nat} {l : List Nat} (h : c ∈ l) : 2 ≤ (spl [c] 0 [] l).length := by
  obtain ⟨p, q, rfl, n⟩ := first_of h
  rw [spl_cut q n]
  have := spl_ne [c] 0 [] q
  cases e : spl [c] 0 [] q with
  | nil => exact absurd e this
  | cons a r => simp
theorem spl_le (c : Nat) : ∀ (n : Nat) (l : List Nat), l.length ≤ n → (∀ p ∈ spl [c] 0 [] l, p.length ≤ l.length) ∧ (spl [c] 0 [] l).length ≤ l.length + 1
  | n, l, hn => by
    by_cases h : c ∈ l
    · obtain ⟨p, q, rfl, np⟩ := first_of h
      cases n with
      | zero => simp at hn
      | succ m =>
        have ih := spl_le c m q (by simp at hn; omega)
        rw [spl_cut q np]
        refine ⟨fun x hx => ?_, ?_⟩
        · rcases List.mem_cons.mp hx with rfl | hx
          · simp
          · have := ih.1 x hx
            simp
            omega
        · have := ih.2
          simp
          omega
    · rw [spl_one h]
      simp
/-- the words of a text, by its last blank -/
theorem words_of (l : List Nat) : (rcut 32 l = none ∧ spl [32] 0 [] l = [l]) ∨ (∃ h t, rcut 32 l = some (h, t) ∧ spl [32] 0 [] l = [h, t]) ∨ (momOf l = none ∧ 2 < (spl [32] 0 [] l).length) := by
  cases e : rcut 32 l with
  | none => exact .inl ⟨rfl, spl_one (rcut_nin e)⟩
  | some z =>
    obtain ⟨h, t⟩ := z
    obtain ⟨el, nt⟩ := rcut_is e
    by_cases hb : 32 ∈ h
    · refine .inr (.inr ⟨?_, ?_⟩)
      · unfold momOf
        rw [e]
        have : dayOf h = none := by
          have hf : figs h = false := by
            cases f : figs h with
            | false => rfl
            | true =>
              have := (figs_iff.mp f).2 32 hb
              omega
          unfold dayOf num?
          rw [hf]
          rfl
        simp only [this]
      · obtain ⟨p, q, eh, np⟩ := first_of hb
        rw [el, eh, List.append_assoc]
        show 2 < (spl [32] 0 [] (p ++ 32 :: (q ++ 32 :: t))).length
        rw [spl_cut _ np]
        have := spl_two (c := 32) (l := q ++ 32 :: t) (by simp)
        simp
        omega
    · refine .inr (.inl ⟨h, t, rfl, ?_⟩)
      rw [el, spl_cut t hb, spl_one nt]
theorem parts_of (u : List Nat) : (∃ h m, spl [58] 0 [] u = [h, m] ∧ h.length + m.length < u.length ∧ clkOf u = if decide (m.length = 2) && figs m then (match num? h with
      | some k => if k < 24 ∧ val m < 60 then some (k * 60 + val m) else none
      | none => none) else none) ∨ (clkOf u = none ∧ (spl [58] 0 [] u).length ≠ 2) := by
  cases e : par [58] [] u with
  | none =>
    refine .inr ⟨by unfold clkOf; rw [e], ?_⟩
    rw [spl_one (par_nin e)]
    simp
  | some z =>
    obtain ⟨h, m⟩ := z
    obtain ⟨h', eh, eu, nh⟩ := par_is e
    have eh2 : h = h' := by rw [eh]; rfl
    subst eh2
    by_cases hm : 58 ∈ m
    · refine .inr ⟨?_, ?_⟩
      · unfold clkOf
        rw [e]
        have hf : figs m = false := by
          cases f : figs m with
          | false => rfl
          | true =>
            have := (figs_iff.mp f).2 58 hm
            omega
        simp only [hf, Bool.and_false]
        rfl
      · rw [eu, spl_cut m nh]
        have := spl_two hm
        simp
        omega
    · refine .inl ⟨h, m, ?_, by rw [eu]; simp, ?_⟩
      · rw [eu, spl_cut m nh, spl_one hm]
      · unfold clkOf
        rw [e]
end Mo
namespace Mo
open PySem TL L2
theorem val_zero {h : List Nat} {n : Nat} (hn : num? h = some n) (h0 : n = 0) : h = [48] := by
  unfold num? at hn
  split at hn
  · rename_i c
    obtain ⟨c1, c2⟩ := Bool.and_eq_true_iff.mp c
    obtain ⟨h1, h2⟩ := figs_iff.mp c1
    have ev : val h = 0 := by
      have := Option.some.inj hn
      omega
    cases h with
    | nil => exact absurd rfl h1
    | cons a r =>
      have ha := h2 a List.mem_cons_self
      cases r with
      | nil =>
        have : val [a] = a - 48 := by simp [val, NumText.digitsVal]
        have : a = 48 := by omega
        rw [this]
      | cons b t =>
        exfalso
        have c3 : ((b :: t).length + 1 > 1) := by simp
        have hz : a ≠ 48 := fun z => by
          rw [z] at c2
          simp at c2
        have key : ∀ (l : List Nat) (acc : Nat), 1 ≤ acc → 1 ≤ l.foldl (fun acc c => acc * 10 + (c - 48)) acc := by
          intro l
          induction l with
          | nil => intro acc h; exact h
          | cons c r ih => intro acc h; exact ih _ (by show 1 ≤ acc * 10 + (c - 48); omega)
        have z := key (b :: t) (0 * 10 + (a - 48)) (by omega)
        have e : val (a :: b :: t) = (b :: t).foldl (fun acc c => acc * 10 + (c - 48)) (0 * 10 + (a - 48)) := rfl
        omega
  · cases hn
end Mo
set_option Elab.async false
set_option linter.all false
set_option maxRecDepth 100000
set_option maxHeartbeats 4000000
namespace L3
open PySem PySem.Spec PyProof.Rows L2
/-! ### try .. except (X1, X2, X3) as n -/
theorem flying_keeps {B h h' : Heap} {l : List Env} {a : Addr} {Z : Obj → Prop} (f : HandSPX.FlyingZ B l a Z h) (k : ∀ b o, h.get? b = some o → h'.get? b = some o) : HandSPX.FlyingZ B l a Z h' := by
  obtain ⟨f1, f2, f3, oe, vs, T, oT, ts, g1, g2, g3, g4, g5, g6, g7, g8⟩ := f
  exact ⟨fun b o e => k _ _ (f1 b o e), f2, Heap.FunFrames.of_keeps (fun b o e _ => ⟨o, k _ _ e, rfl⟩) f3, oe, vs, T, oT, ts, k _ _ g1, g2, g3, g4, g5, g6, k _ _ g7, g8⟩
/-- what such a clause wishes of an exception of the body: it is caught; slot i is n's -/
def wTup (K : PySem.W.Frag) (cs : List Value) (i : Nat) (ts : Addr → Value → Option Addr → TS) (D : Ends) : WX := fun cls d σ H =>
  PySem.W.exmAny K cls cs = some true ∧ ∀ a, H a = none → ts a cls d { nx := fun σ' H' => D.nx (σ'.set i none) H', rt := D.rt, bk := fun σ' H' => D.bk (σ'.set i none) H', ct := fun σ' H' => D.ct (σ'.set i none) H' } (σ.set i (some (.ref a))) H
section
variable {X : Cx} {x1 x2 x3 n : Str} {c1 c2 c3 : Value} {i k3 : Nat} {body suite : List Stmt} {b₀ : Stmt} {p1 p2 p3 tp pos pos' : Pos} {tb : WX → TS} {ts : Addr → Value → Option Addr → TS}
theorem ps_try_tup (hs : X.stack = X.env :: X.outer) (hf : X.env.frame = some X.env.locals) (hN : X.N.Nodup) (hi : X.N[i]? = some n) (hln : X.env.kindOf n = some .local)
    (m1 : X.mg x1 = some c1) (m2 : X.mg x2 = some c2) (m3 : X.mg x3 = some c3)
    (hb : ∀ (W : WX) (pn : List (Addr × Obj)) (xe : Value → Shared → Prop), Takes (X.tr pn xe) W → PassesOwn (model X.prog X.w) X.A X.env xe → PSs (X.tr pn xe) body (tb W))
    (hsu : ∀ (a : Addr) (oe : Obj) (cls : Value) (d : Option Addr) (pn : List (Addr × Obj)), Zc cls d oe → (∃ vs, oe.data = .fields vs) → PSs (X.suite a ((a, oe) :: pn)) (b₀ :: suite) (ts a cls d))
    (g1 : Gl X x1 := by rfl) (g2 : Gl X x2 := by rfl) (g3 : Gl X x3 := by rfl) (d1 : (x1 == ("__debug__" : Str)) = false := by decide) (d2 : (x2 == ("__debug__" : Str)) = false := by decide) (d3 : (x3 == ("__debug__" : Str)) = false := by decide) :
    PS X (.Try body [.ExceptHandler (some (.Tuple [.Name x1 p1, .Name x2 p2, .Name x3 p3] k3 tp)) (some n) (b₀ :: suite) pos'] [] [] pos) (fun D σ H => tb (wTup X.K [c1, c2, c3] i ts D) D σ H) := by
  refine ⟨fun pins s σ H D I h => ?_⟩
  have ok := I.ok
  have hfr : X.A.frames = some (X.env :: X.outer) := by rw [ok.frames, hs]
  refine wpAny_Try_except ?_
  refine wpAny_mono ((hb (wTup X.K [c1, c2, c3] i ts D) (X.pn ++ pins) (fun e s₁ => wpAny (model X.prog X.w) X.A (noteFrame e X.env) (fun _ s₂ => wpAny (model X.prog X.w) X.A (setFlight e none) (fun _ s₃ =>
    wpAny (model X.prog X.w) X.A (handleBy e X.env [.ExceptHandler (some (.Tuple [.Name x1 p1, .Name x2 p2, .Name x3 p3] k3 tp)) (some n) (b₀ :: suite) pos']) (SP X pins D) X.xe s₃) X.xe s₂) X.xe s₁) (fun u s' xx => ?_) PassesOwn.looking).run [] s σ H D (I.toTry _) h) (fun f s1 hsp => ?_) (fun e s1 he => he)
  · obtain ⟨a, B, sI, pins', σ', H', cls, d, rfl, J', nb, up, sky, na, os, ag, hb1, hyes⟩ := xx
    have J : Inv X pins σ' H' sI := J'.ofTry ok
    have sky' : Sky B (X.env :: X.outer) a (Zc cls d) X.env.locals s'.heap := by rw [← hs]; exact sky
    show wpAny (model X.prog X.w) X.A (noteFrame (.ref a) X.env) _ _ _
    refine Sky.land Zc.steady hfr hf sky' fun h3 fl3 up3 => ?_
    have J3 : Inv X pins σ' H' { s' with heap := h3 } := J.landed nb fl3.1 (up.trans up3) os ag
    obtain ⟨oe3, vs3, he3, hz3, hd3⟩ := fl3.there
    have nfr : a ∉ frs (X.env :: X.outer) := fun hm => by
      obtain ⟨_, o', e', hnf⟩ := fl3.2.2.1.mem hm
      rw [he3] at e'
      cases e'
      exact hnf _ hd3
    have nL : a ≠ X.env.locals := fun z => nfr (List.mem_filterMap.mpr ⟨X.env, List.mem_cons_self, by rw [hf, z]⟩)
    have nF : a ∉ X.fs := fun hm => by
      obtain ⟨e, he, q⟩ := List.mem_filterMap.mp hm
      exact nfr (List.mem_filterMap.mpr ⟨e, List.mem_cons_of_mem _ he, q⟩)
    have S3 := J3.suite he3 hd3 na nL nF
    refine wpAny_handleBy_cons (codeAny_handlers_test ?_) (by intro q; cases q)
    refine wpAny_Tuple_spliced ?_
    refine Calls.spliced_cons (ld_glob (X := X.suite a ((a, oe3) :: (X.pn ++ pins))) S3 g1 m1 ?_ d1)
    refine Calls.spliced_cons (ld_glob (X := X.suite a ((a, oe3) :: (X.pn ++ pins))) S3 g2 m2 ?_ d2)
    refine Calls.spliced_cons (ld_glob (X := X.suite a ((a, oe3) :: (X.pn ++ pins))) S3 g3 m3 ?_ d3)
    refine Calls.spliced_nil ⟨by show 3 ≤ sizeLine; rw [sizeLine_eq]; decide, ?_⟩
    have kp : ∀ b o, h3.get? b = some o → (h3.push { cls := .type "tuple", data := .seq [c1, c2, c3].toArray }).get? b = some o := fun b o e => Heap.get?_push_of_some _ e
    have LT : PySem.W.Looks (model X.prog X.w) (h3.push { cls := .type "tuple", data := .seq [c1, c2, c3].toArray }) (typeOf (.ref a)) cls := fun A Q E s k q => wpAny_typeOf_ref (k _ _ (kp _ _ he3)) (by rw [hz3.1]; exact q)
    have LM := PySem.W.exm_tup3 (M := model X.prog X.w) (J3.kIn.keeps kp) LT (Heap.get?_push_size _ rfl) hb1
    refine LM.here ?_
    refine codeAny_handlers_suite_as ?_
    refine HandSPX.lands_againZ (flying_keeps fl3 kp) fun h4 fl4 up4 => ?_
    have J4 : Inv X pins σ' H' { s' with heap := h4 } := J.landed nb fl4.1 (((up.trans up3).trans (Heap.UpToSlots.of_keeps kp)).trans up4) os ag
    obtain ⟨oe4, vs4, he4, hz4, hd4⟩ := fl4.there
    have S4 := J4.suite he4 hd4 na nL nF
    refine store_ok (X := X.suite a ((a, oe4) :: (X.pn ++ pins))) (v := .ref a) S4 hN hi (.inl hln) rfl (fun s5 S5 => ?_) (.inr hln)
    refine wpAny_mono ((hsu a oe4 cls d (X.pn ++ pins) hz4 ⟨_, hd4⟩).run [] s5 _ H' _ S5 (hyes a na)) (fun f s6 hsp => ?_) (fun _ _ z => False.elim z)
    have end_ : ∀ {σ6 : L2.St} {H6 : Hp} {Q : Shared → Prop}, Inv (X.suite a ((a, oe4) :: (X.pn ++ pins))) [] σ6 H6 s6 → (∀ s7, Inv X pins (σ6.set i none) H6 s7 → Q s7) →
        wpAny (model X.prog X.w) X.A (do bindName X.env n .none; unbindBehindTheSuite X.env n pos') (fun _ s7 => Q s7) X.xe s6 := fun {σ6 H6 Q} S6 hq => gone_ok (S6.unsuite ok) hN hi hln hq
    cases f with
    | next =>
      obtain ⟨σ6, H6, S6, q6⟩ := hsp
      exact end_ S6 fun s7 J7 => ⟨_, _, J7, q6⟩
    | brk =>
      obtain ⟨σ6, H6, S6, q6⟩ := hsp
      exact end_ S6 fun s7 J7 => ⟨_, _, J7, q6⟩
    | cont =>
      obtain ⟨σ6, H6, S6, q6⟩ := hsp
      exact end_ S6 fun s7 J7 => ⟨_, _, J7, q6⟩
    | ret u =>
      obtain ⟨v6, σ6, H6, S6, r6, q6⟩ := hsp
      exact end_ S6 fun s7 J7 => ⟨_, _, _, J7, r6, q6⟩
  · cases f with
    | next =>
      obtain ⟨σ6, H6, S6, q6⟩ := hsp
      exact wpAny_execs_nil ⟨_, _, S6.ofTry ok, q6⟩
    | brk =>
      obtain ⟨σ6, H6, S6, q6⟩ := hsp
      exact ⟨_, _, S6.ofTry ok, q6⟩
    | cont =>
      obtain ⟨σ6, H6, S6, q6⟩ := hsp
      exact ⟨_, _, S6.ofTry ok, q6⟩
    | ret u =>
      obtain ⟨v6, σ6, H6, S6, r6, q6⟩ := hsp
      exact ⟨_, _, _, S6.ofTry ok, r6, q6⟩
end
/-! ### isinstance(e, ..), e the exception that the suite holds -/
def rIsA (K : PySem.W.Frag) (a : Addr) (cls : Value) (d : Option Addr) : List V → Hp → VK → Prop := fun xs H Q => ∃ (D : Addr) (c : V) (cv : Value) (b : Bool), cls = .ref D ∧ d = none ∧ ExcC K D ∧ xs = [.ref a, c] ∧ ClsV c cv ∧ PySem.W.kitOne K (.ref D) cv = some b ∧ Q (.bl b) H
def rIsAT (K : PySem.W.Frag) (a : Addr) (cls : Value) (d : Option Addr) : List V → Hp → VK → Prop := fun xs H Q => ∃ (D tp : Addr) (cs : List V) (us : List Value) (b : Bool), cls = .ref D ∧ d = none ∧ ExcC K D ∧ xs = [.ref a, .ref tp] ∧ H tp = some (.tup cs) ∧ Paired ClsV cs us ∧ PySem.W.kitAny K (.ref D) us = some b ∧ Q (.bl b) H
section
variable {X : Cx} {a : Addr} {cls : Value} {d : Option Addr} {oe : Obj} {pn : List (Addr × Obj)}
theorem suite_inst {pins : List (Addr × Obj)} {s : Shared} {σ : L2.St} {H : Hp} {D : Addr} (I : Inv (X.suite a ((a, oe) :: pn)) pins σ H s) (hz : Zc (.ref D) none oe) (hf : ∃ vs, oe.data = .fields vs) : PySem.W.InstAt s.heap a oe D none := by
  obtain ⟨hget, _⟩ := I.pin (a, oe) (List.mem_append.mpr (.inl List.mem_cons_self))
  obtain ⟨vs, hv⟩ := hf
  obtain ⟨oc, od, oda, osl⟩ := oe
  obtain ⟨h1, h2⟩ := hz
  dsimp only at h1 h2 hv
  subst h1 h2 hv
  exact ⟨hget, rfl, rfl, trivial⟩
theorem call_isA (hz : Zc cls d oe) (hf : ∃ vs, oe.data = .fields vs) : CallR (X.suite a ((a, oe) :: pn)) (.builtin "isinstance") (rIsA X.K a cls d) := by
  intro pins s σ H xs us Q I r h
  obtain ⟨D, c, cv, b, rfl, rfl, C, rfl, k, e, q⟩ := h
  obtain ⟨u1, u2, rfl, r1, r2⟩ := vals2 r
  have e2 := k.eq r2
  subst e2
  cases (show u1 = Value.ref a from r1)
  exact PySem.W.kia_one (PySem.W.handS_kitx_exc C.hg C.hk C.hs C.hd C.ha C.hn C.ht C.hm) I.kIn (suite_inst I hz hf) e (fun z => nomatch z) fun tk => ⟨.bl b, H, I.kept (t' := tk) fun _ _ z => z, rfl, q⟩
theorem call_isAT (hz : Zc cls d oe) (hf : ∃ vs, oe.data = .fields vs) : CallR (X.suite a ((a, oe) :: pn)) (.builtin "isinstance") (rIsAT X.K a cls d) := by
  intro pins s σ H xs us Q I r h
  obtain ⟨D, tp, cs, ws, b, rfl, rfl, C, rfl, hT, k, e, q⟩ := h
  obtain ⟨u1, u2, rfl, r1, r2⟩ := vals2 r
  cases (show u1 = Value.ref a from r1)
  cases (show u2 = Value.ref tp from r2)
  obtain ⟨_, its, rv, o, h1, h2, n, h3⟩ := (show ObjOk X.prog X.w H s.heap tp (.tup cs) from I.hok tp _ hT)
  have e3 := ClsV.all k rv
  subst e3
  obtain ⟨oc, od, dt, sl⟩ := o
  simp only at h2 h3
  subst h2 h3
  exact PySem.W.kia_tup (PySem.W.handS_kitx_exc C.hg C.hk C.hs C.hd C.ha C.hn C.ht C.hm) I.kIn (suite_inst I hz hf) h1 e (fun z => nomatch z) fun tk => ⟨.bl b, H, I.kept (t' := tk) fun _ _ z => z, rfl, q⟩
end
def excCB (x : Str) : Fx := fun K => He.eqO (PySem.W.findIn K (.ref (He.ga K x)) "__getattribute__") (some (some (.builtin "BaseException.__getattribute__"))) && (He.eqO (PySem.W.findIn K (.ref (He.ga K x)) "__getattr__") (some none) && (decide (PySem.W.subIn K (.ref (He.ga K x)) (.type "BaseException") = some true) && (PySem.W.hasDictIn K (He.ga K x) &&
  (He.eqO (PySem.W.findIn K (.ref (He.ga K x)) "__class__") (some (some (.builtin "object.__class__"))) && (He.eqO (PySem.W.specialIn K (.builtin "object.__class__") "__get__") (some (some (.builtin "getset_descriptor.__get__"))) && (decide (PySem.W.takesIn K (.builtin "object.__class__") = some true) && decide (PySem.W.mroIn K (He.ga K x) (.type "object") = some true)))))))
theorem excC_of {x : Str} {K : PySem.W.Frag} (h : excCB x K = true) : ExcC K (He.ga K x) := by
  obtain ⟨h1, h⟩ := He.ba h
  obtain ⟨h2, h⟩ := He.ba h
  obtain ⟨h3, h⟩ := He.ba h
  obtain ⟨h4, h⟩ := He.ba h
  obtain ⟨h5, h⟩ := He.ba h
  obtain ⟨h6, h⟩ := He.ba h
  obtain ⟨h7, h8⟩ := He.ba h
  exact ⟨He.eqO_ok h1, He.eqO_ok h2, of_decide_eq_true h3, h4, He.eqO_ok h5, He.eqO_ok h6, of_decide_eq_true h7, of_decide_eq_true h8⟩
def kitF (x y : Str) (b : Bool) : Fx := fun K => decide (PySem.W.kitOne K (.ref (He.ga K x)) (.ref (He.ga K y)) = some b)
def kitFT (x : Str) (y : String) (b : Bool) : Fx := fun K => decide (PySem.W.kitOne K (.ref (He.ga K x)) (.type y) = some b)
def exm3F (x : Str) (ys : List Str) : Fx := fun K => decide (PySem.W.exmAny K (.ref (He.ga K x)) (ys.map fun y => .ref (He.ga K y)) = some true)
end L3
set_option Elab.async false
set_option linter.all false
set_option maxRecDepth 100000
set_option maxHeartbeats 4000000
namespace L3
open PySem PySem.Spec PyProof.Rows L2
/-! ### repr of data with dicts in it -/
def keyD : Key → PyData
  | .inl i => .int i
  | .inr x => .str x
def zipK : List (Key × V) → List PyData → List (PyData × PyData)
  | (k, _) :: r, d :: ds => (keyD k, d) :: zipK r ds
  | _, _ => []
inductive Dq (K : PySem.W.Frag) (H : Hp) : V → PyData → Prop
  | non : Dq K H .non .none
  | bl (b : Bool) : Dq K H (.bl b) (.bool b)
  | int (i : Int) : Dq K H (.int i) (.int i)
  | str (x : Str) : Dq K H (.str x) (.str x)
  | lst {a : Addr} {xs : List V} {ds : List PyData} : SqL K H a xs → xs.length = ds.length → (∀ (i : Nat) (x : V) (d : PyData), xs[i]? = some x → ds[i]? = some d → Dq K H x d) → Dq K H (.ref a) (.list ds)
  | tup {a : Addr} {xs : List V} {ds : List PyData} : SqT K H a xs → xs.length = ds.length → (∀ (i : Nat) (x : V) (d : PyData), xs[i]? = some x → ds[i]? = some d → Dq K H x d) → Dq K H (.ref a) (.tuple ds)
  | dct {a : Addr} {kvs : List (Key × V)} {ds : List PyData} : H a = some (.dK kvs) → kvs.length = ds.length → (∀ (i : Nat) (k : Key) (x : V) (d : PyData), kvs[i]? = some (k, x) → ds[i]? = some d → Dq K H x d) → Dq K H (.ref a) (.dict (zipK kvs ds))
theorem Dq.mono {K : PySem.W.Frag} {H H' : Hp} {x : V} {d : PyData} (e : Ex H H') (h : Dq K H x d) : Dq K H' x d := by
  induction h with
  | non => exact .non
  | bl b => exact .bl b
  | int i => exact .int i
  | str x => exact .str x
  | lst s l _ ih => exact .lst (ex_sql e s) l ih
  | tup s l _ ih => exact .tup (ex_sqt e s) l ih
  | dct s l _ ih => exact .dct (e _ _ s) l ih
theorem all_reads {h : Heap} : ∀ (xs : List V) (ds : List PyData) (us : List Value), xs.length = ds.length → Vals xs us → (∀ (i : Nat) (x : V) (d : PyData), xs[i]? = some x → ds[i]? = some d → ∀ u, RelV x u → ∃ as, Reads h u d as ∧ sysModules ∉ as) → ∃ as, ReadsAll h us ds as ∧ sysModules ∉ as
  | [], [], _, _, r, _ => by
    cases r
    exact ⟨_, .nil, by simp⟩
  | x :: xs, d :: ds, _, l, r, h => by
    cases r with
    | cons r1 r2 =>
      obtain ⟨as, q1, n1⟩ := h 0 x d rfl rfl _ r1
      obtain ⟨bs, q2, n2⟩ := all_reads xs ds _ (by simpa using l) r2 fun i y e h1 h2 => h (i + 1) y e (by simpa using h1) (by simpa using h2)
      refine ⟨_, .cons q1 q2, fun z => ?_⟩
      rcases List.mem_append.mp z with z | z
      · exact n1 z
      · exact n2 z
theorem key_reads {h : Heap} {k : Key} {v : Value} (e : keyIs k v = true) : Reads h v (keyD k) [] := by
  rcases keyIs_shape e with ⟨i, t, rfl, rfl⟩ | ⟨x, t, rfl, rfl⟩
  · exact .int i t
  · exact .str x t
theorem kv_reads {P : Program} {w : World} {h : Heap} : ∀ (kvs : List (Key × V)) (ds : List PyData) (es : List DictEntry) (vs : List (Key × Value)), kvs.length = ds.length → KV kvs vs → Pairs (mixKind P w) es vs →
    (∀ (i : Nat) (k : Key) (x : V) (d : PyData), kvs[i]? = some (k, x) → ds[i]? = some d → ∀ u, RelV x u → ∃ as, Reads h u d as ∧ sysModules ∉ as) →
    ReadsAll h (es.map (·.key)) ((zipK kvs ds).map (·.1)) [] ∧ ∃ bs, ReadsAll h (es.map (·.val)) ((zipK kvs ds).map (·.2)) bs ∧ sysModules ∉ bs
  | [], [], es, vs, _, r, p, _ => by
    cases r
    cases p
    exact ⟨.nil, _, .nil, by simp⟩
  | (k, x) :: kvs, d :: ds, es, vs, l, r, p, h => by
    cases r with
    | cons r1 r2 =>
      cases p with
      | cons p1 p2 p3 =>
        obtain ⟨as, q1, n1⟩ := h 0 k x d rfl rfl _ r1.2
        obtain ⟨h1, bs, q2, n2⟩ := kv_reads kvs ds _ _ (by simpa using l) r2 p3 fun i k' y e h1 h2 => h (i + 1) k' y e (by simpa using h1) (by simpa using h2)
        refine ⟨ReadsAll.cons (as := []) (bs := []) (key_reads (by have e : k = _ := r1.1; subst e; exact p1)) h1, as ++ bs, ReadsAll.cons (by rw [← p2] at q1; exact q1) q2, fun z => ?_⟩
        rcases List.mem_append.mp z with z | z
        · exact n1 z
        · exact n2 z
/-- the part that is written holds sys.modules: a dict -/
def SysK (K : PySem.W.Frag) : Prop := ∃ o, K.lookup sysModules = some o ∧ o.cls = .type "dict"
def sysB : Fx := fun K => match K.lookup sysModules with
  | some o => match o.cls with
    | .type n => n == "dict"
    | _ => false
  | none => false
theorem sys_of {K : PySem.W.Frag} (h : sysB K = true) : SysK K := by
  unfold sysB at h
  split at h
  · rename_i o e
    split at h
    · rename_i n c
      have : n = "dict" := by simpa using h
      exact ⟨o, e, by rw [c, this]⟩
    · cases h
  · cases h
theorem Dq.reads {X : Cx} {pins : List (Addr × Obj)} {σ : L2.St} {H : Hp} {s : Shared} (I : Inv X pins σ H s) (S : SysK X.K) {x : V} {d : PyData} (h : Dq X.K H x d) : ∀ u, RelV x u → ∃ as, Reads s.heap u d as ∧ sysModules ∉ as := by
  obtain ⟨o1, k1, c1⟩ := S
  have g1 := I.kIn _ _ k1
  induction h with
  | non =>
    intro u r
    cases r
    exact ⟨_, .none, by simp⟩
  | bl b =>
    intro u r
    cases r
    exact ⟨_, .bool b, by simp⟩
  | int i =>
    rintro u ⟨t, rfl⟩
    exact ⟨_, .int i t, by simp⟩
  | str x =>
    rintro u ⟨t, rfl⟩
    exact ⟨_, .str x t, by simp⟩
  | @lst a xs ds hs l _ ih =>
    intro u r
    cases r
    obtain ⟨its, rv, ⟨o, n, ho, hc, _, hd⟩, _⟩ := I.list hs
    obtain ⟨as, hr, hn⟩ := all_reads xs ds its l rv ih
    refine ⟨_, .list ho hc hd hr, fun z => ?_⟩
    rcases List.mem_cons.mp z with z | z
    · rw [← z, g1] at ho
      cases ho
      rw [c1] at hc
      injection hc with z2
      exact absurd z2 (by decide)
    · exact hn z
  | @tup a xs ds hs l _ ih =>
    intro u r
    cases r
    obtain ⟨its, rv, ⟨o, ho, hc, n, hd⟩, _⟩ := I.tuple hs
    obtain ⟨as, hr, hn⟩ := all_reads xs ds its l rv ih
    exact ⟨_, .tuple ho hc hd hr, hn⟩
  | @dct a kvs ds hs l _ ih =>
    intro u r
    cases r
    obtain ⟨_, ns, vs, rk, o, es, ep, ho, ⟨hc, _, _⟩, hd, _, hp, _⟩ := dk_of I.hok hs
    obtain ⟨h1, bs, h2, hn⟩ := kv_reads kvs ds es.toList vs l rk hp ih
    refine ⟨_, .dict ho hc hd h1 h2, fun z => ?_⟩
    rcases List.mem_cons.mp z with z | z
    · rw [← z] at ns
      simp at ns
    · exact hn (by simpa using z)
@[irreducible] def rReprQ (K : PySem.W.Frag) : List V → Hp → VK → Prop := fun xs H Q => ∃ (a : Addr) (d : PyData), xs = [.ref a] ∧ Dq K H (.ref a) d ∧ d.showable = true ∧ d.depth ≤ 60 ∧ d.shown.length ≤ sizeLine ∧ Q (.str d.shown) H
theorem call_reprQ {X : Cx} {k : Nat} (S : SysK X.K) (hr : Rm k X.A) : CallR X (.builtin "repr") (rReprQ X.K) := by
  intro pins s σ H xs us Q I r h
  unfold rReprQ at h
  obtain ⟨a, d, rfl, hd, hs, hdp, hsz, q⟩ := h
  cases r with
  | cons r1 r2 =>
    cases r2
    obtain ⟨as, rd, nm⟩ := Dq.reads I S hd _ r1
    obtain rfl : _ = Value.ref a := r1
    refine repr_of_reads' rd hs (fun _ => nm) hr.gd (by have := hr.rm.un; omega) (fun _ _ e => e) (fun h' u tk hk => ?_) hsz
    exact ⟨.str d.shown, H, I.kept hk, ⟨u, rfl⟩, q⟩
/-- small data, shown -/
structure ShD (d : PyData) : Prop where
  ok : d.showable = true
  len : d.shown.length ≤ 5000
  dep : d.depth ≤ 3
theorem shd_int {i : Int} (h1 : -(10 ^ 150) < i) (h2 : i < 10 ^ 150) : ShD (.int i) := by
  obtain ⟨_, h3, h4⟩ := okD_tells (.int i) (okI_of h1 h2)
  exact ⟨h3, Nat.le_trans h4 (by show 1921 ≤ 5000; decide), by show 0 ≤ 3; decide⟩
theorem shd_list {ds : List PyData} (h : ∀ d ∈ ds, ShD d) (hl : ds.length ≤ 100) : PyData.showableAll ds = true ∧ PyData.depthAll ds ≤ 3 ∧ ((PyData.shownAll ds).map (·.length)).sum ≤ 5000 * ds.length := by
  induction ds with
  | nil => exact ⟨rfl, by show 0 ≤ 3; decide, by show 0 ≤ 0; decide⟩
  | cons d r ih =>
    obtain ⟨h1, h2, h3⟩ := ih (fun x hx => h x (List.mem_cons_of_mem _ hx)) (by simp at hl; omega)
    obtain ⟨g1, g2, g3⟩ := h d List.mem_cons_self
    refine ⟨?_, ?_, ?_⟩
    · show (d.showable && PyData.showableAll r) = true
      rw [g1, h1]
      rfl
    · show max d.depth (PyData.depthAll r) ≤ 3
      omega
    · show d.shown.length + ((PyData.shownAll r).map (·.length)).sum ≤ 5000 * (r.length + 1)
      omega
theorem rq_list {K : PySem.W.Frag} {H : Hp} {a : Addr} {ds : List PyData} {Q : VK} (h : Dq K H (.ref a) (.list ds)) (hs : ∀ d ∈ ds, ShD d) (hl : ds.length ≤ 100) (q : Q (.str (PyData.shown (.list ds))) H) : rReprQ K [.ref a] H Q := by
  unfold rReprQ
  obtain ⟨h1, h2, h3⟩ := shd_list hs hl
  refine ⟨a, _, rfl, h, h1, ?_, ?_, q⟩
  · show PyData.depthAll ds + 1 ≤ 60
    omega
  · have e := listText_len_le (PyData.shownAll ds)
    rw [PyData.shownAll_length] at e
    show (listText (PyData.shownAll ds)).length ≤ sizeLine
    rw [sizeLine_eq]
    omega
end L3
set_option Elab.async false
set_option linter.all false
set_option maxRecDepth 100000
set_option maxHeartbeats 4000000
namespace L3
open PySem PySem.Spec PyProof.Rows L2
theorem Rm.in1 {k : Nat} {A : Around} (r : Rm (k + 1) A) : Rm k A.in1 := ⟨r.rm.in1, r.gd⟩
section
variable {X : Cx} {k : Nat} {f C : Addr} {ks : List Str} {sp : Sp} {W : WX} {x m : Str} {p pos apos : Pos} {e o : Expr} {es : List Expr} {kws : List Keyword} {ta : TE} {t tk : TA}
/-- a def that runs somewhere below the body -/
theorem run_fcA {A : Around} {pins : List (Addr × Obj)} {σ : L2.St} {H : Hp} {s : Shared} {Q : VK} {us ws : List Value} {vs : List V} (F : Fc X.prog X.w X.K X.mg X.base k f ks sp) (hr : Rm k A) (hf : A.frames = X.A.frames) (hx : Takes X W)
    (I : Inv X pins σ H s) (r : Vals vs (us ++ ws)) (hl : ws.length = ks.length) (h : sp vs H Q (WE W σ)) : wpAny (model X.prog X.w) A (call (.ref f) us (ks.zip ws)) (EP X pins σ Q) X.xe s := by
  have e0 : Env0 X.prog X.w X.K X.mg X.base A X.stack s H := by
    have e := I.env0
    exact ⟨by rw [hf]; exact e.frames, e.mod, e.bs, e.bsz, e.funs, e.frf, e.hok, e.bare⟩
  refine wpAny_call (codeAny_mono (F A X.stack s H us ws vs Q (WE W σ) hr e0 r hl h) fun r s' hq => ?_)
  cases r with
  | error e => exact passAt hx σ pins H s e s' I hq
  | ok fl =>
    cases fl with
    | ret u => exact I.after hq
    | next => exact False.elim hq
    | brk => exact False.elim hq
    | cont => exact False.elim hq
/-- o.m(e, ..) of an instance of the class at C -/
def tMt (C : Addr) (m : Str) (sp : Sp) (W : WX) (ta : TE) (t : TA) : TE := fun σ H Q => ta σ H fun x H1 => ∃ a dx fs, x = .ref a ∧ H1 a = some (.ins C dx fs) ∧ fs.lookup m = none ∧ t σ H1 fun vs H2 => sp (x :: vs) H2 Q (WE W σ)
theorem c_meth {pl : Sem Bool} (he : PE X o ta) (c : Cls X.K C) (hm : Meth X.K C m f) (F : Fc X.prog X.w X.K X.mg X.base k f [] sp) (hr : Rm k X.A) (hx : Takes X W) (ha : PA X (e :: es) t)
    (hst : starEach (e :: es) X.env = (false, eval e X.env) :: starEach es X.env := by rfl) (hpl : (backTo pos (starEach es X.env)).any (·.1) = false := by rfl)
    (ht : eval (.Call (.Attribute o m apos) (e :: es) [] pos) X.env = (do
      let ov ← eval o X.env
      standAt apos.atName
      let (f, first) ← holding [ov] (getMethod ov m pl)
      callWith pos f first (backTo pos (starEach (e :: es) X.env)) (backToKw pos (keywordEach [] X.env))) := by rfl) :
    PE X (.Call (.Attribute o m apos) (e :: es) [] pos) (tMt C m sp W ta t) := by
  refine ⟨fun pins s σ H Q I h => ?_⟩
  refine PySem.W.methodCall_KW (pl := pl) (thn (he.run pins s σ H _ I h) fun u s1 ⟨x, H1, I1, rx, a, dx, fs, ex, ea, l, q⟩ => ?_) ht
  subst ex
  obtain rfl : u = Value.ref a := rx
  refine getmeth_ok I1 ea c hm l ?_
  refine PySem.W.callWith_K (first := [.ref a]) (h₀ := X.base) I.ok.mod.kin hm.kp (thn (ha.run pos pins s1 σ H1 _ I1 q) fun us s2 ⟨vs, H2, I2, r, q2⟩ => ⟨I2.kIn, ?_⟩) hst hpl
  exact run_fc (us := .ref a :: us) (ws := []) (vs := .ref a :: vs) F hr hx I2 (by rw [List.append_nil]; exact .cons rfl r) rfl q2
theorem c_meth0 {pl : Sem Bool} (he : PE X o ta) (c : Cls X.K C) (hm : Meth X.K C m f) (F : Fc X.prog X.w X.K X.mg X.base k f [] sp) (hr : Rm k X.A) (hx : Takes X W)
    (ht : eval (.Call (.Attribute o m apos) [] [] pos) X.env = (do
      let ov ← eval o X.env
      standAt apos.atName
      let (f, first) ← holding [ov] (getMethod ov m pl)
      callWith pos f first (backTo pos (starEach [] X.env)) (backToKw pos (keywordEach [] X.env))) := by rfl) :
    PE X (.Call (.Attribute o m apos) [] [] pos) (tMt C m sp W ta tNil) := by
  refine ⟨fun pins s σ H Q I h => ?_⟩
  refine PySem.W.methodCall_KW (pl := pl) (thn (he.run pins s σ H _ I h) fun u s1 ⟨x, H1, I1, rx, a, dx, fs, ex, ea, l, q⟩ => ?_) ht
  subst ex
  obtain rfl : u = Value.ref a := rx
  refine getmeth_ok I1 ea c hm l ?_
  exact PySem.W.callWith_K0 (first := [.ref a]) I1.kIn hm.kp (run_fc (us := [.ref a]) (ws := []) (vs := [.ref a]) F hr hx I1 (.cons rfl .nil) rfl q)
/-- o.m(k = v, ..) -/
def tMtK (C : Addr) (m : Str) (ks : List Str) (sp : Sp) (W : WX) (ta : TE) (tk : TA) : TE := fun σ H Q => ta σ H fun x H1 => ∃ a dx fs, x = .ref a ∧ H1 a = some (.ins C dx fs) ∧ fs.lookup m = none ∧ tk σ H1 fun zs H2 => zs.length = ks.length ∧ sp (x :: zs) H2 Q (WE W σ)
theorem c_methK0 {pl : Sem Bool} (he : PE X o ta) (c : Cls X.K C) (hm : Meth X.K C m f) (F : Fc X.prog X.w X.K X.mg X.base k f ks sp) (hr : Rm k X.A) (hx : Takes X W)
    (hkw : PK X kws tk) (hall : (backToKw pos (keywordEach kws X.env)).all (·.1.isSome) = true := by rfl) (hks : (backToKw pos (keywordEach kws X.env)).filterMap (·.1) = ks := by rfl)
    (hpl : ((backTo pos (starEach [] X.env)).any (·.1) || (backToKw pos (keywordEach kws X.env)).any (·.1.isNone)) = false := by rfl)
    (ht : eval (.Call (.Attribute o m apos) [] kws pos) X.env = (do
      let ov ← eval o X.env
      standAt apos.atName
      let (f, first) ← holding [ov] (getMethod ov m pl)
      callWith pos f first (backTo pos (starEach [] X.env)) (backToKw pos (keywordEach kws X.env))) := by rfl) :
    PE X (.Call (.Attribute o m apos) [] kws pos) (tMtK C m ks sp W ta tk) := by
  refine ⟨fun pins s σ H Q I h => ?_⟩
  refine PySem.W.methodCall_KW (pl := pl) (thn (he.run pins s σ H _ I h) fun u s1 ⟨x, H1, I1, rx, a, dx, fs, ex, ea, l, q⟩ => ?_) ht
  subst ex
  obtain rfl : u = Value.ref a := rx
  refine getmeth_ok I1 ea c hm l ?_
  refine PySem.W.callWith_KW0 (first := [.ref a]) (h₀ := X.base) I.ok.mod.kin hm.kp hall ?_ hpl
  refine thn (hkw.run pos pins s1 σ H1 _ I1 q) fun ws s2 ⟨zs, H2, I2, rz, l2, q2⟩ => ⟨I2.kIn, ?_⟩
  rw [hks]
  exact run_fc (us := [.ref a]) (vs := .ref a :: zs) F hr hx I2 (.cons rfl rz) (rz.length.symm.trans l2) q2
/-- o.m(e, .., k = v, ..) -/
def tMtN (C : Addr) (m : Str) (ks : List Str) (sp : Sp) (W : WX) (ta : TE) (t tk : TA) : TE := fun σ H Q => ta σ H fun x H1 => ∃ a dx fs, x = .ref a ∧ H1 a = some (.ins C dx fs) ∧ fs.lookup m = none ∧ t σ H1 fun vs H2 => tk σ H2 fun zs H3 => zs.length = ks.length ∧ sp (x :: (vs ++ zs)) H3 Q (WE W σ)
theorem c_methK {pl : Sem Bool} (he : PE X o ta) (c : Cls X.K C) (hm : Meth X.K C m f) (F : Fc X.prog X.w X.K X.mg X.base k f ks sp) (hr : Rm k X.A) (hx : Takes X W)
    (ha : PA X (e :: es) t) (hkw : PK X kws tk) (hall : (backToKw pos (keywordEach kws X.env)).all (·.1.isSome) = true := by rfl) (hks : (backToKw pos (keywordEach kws X.env)).filterMap (·.1) = ks := by rfl)
    (hst : starEach (e :: es) X.env = (false, eval e X.env) :: starEach es X.env := by rfl)
    (hpl : ((backTo pos (starEach (e :: es) X.env)).any (·.1) || (backToKw pos (keywordEach kws X.env)).any (·.1.isNone)) = false := by rfl)
    (ht : eval (.Call (.Attribute o m apos) (e :: es) kws pos) X.env = (do
      let ov ← eval o X.env
      standAt apos.atName
      let (f, first) ← holding [ov] (getMethod ov m pl)
      callWith pos f first (backTo pos (starEach (e :: es) X.env)) (backToKw pos (keywordEach kws X.env))) := by rfl) :
    PE X (.Call (.Attribute o m apos) (e :: es) kws pos) (tMtN C m ks sp W ta t tk) := by
  refine ⟨fun pins s σ H Q I h => ?_⟩
  refine PySem.W.methodCall_KW (pl := pl) (thn (he.run pins s σ H _ I h) fun u s1 ⟨x, H1, I1, rx, a, dx, fs, ex, ea, l, q⟩ => ?_) ht
  subst ex
  obtain rfl : u = Value.ref a := rx
  refine getmeth_ok I1 ea c hm l ?_
  refine PySem.W.callWith_KW (first := [.ref a]) (h₀ := X.base) I.ok.mod.kin hm.kp hall (thn (ha.run pos pins s1 σ H1 _ I1 q) fun us s2 ⟨vs, H2, I2, r, q2⟩ => ?_) hpl hst
  refine thn (hkw.run pos pins s2 σ H2 _ I2 q2) fun ws s3 ⟨zs, H3, I3, rz, l2, q3⟩ => ⟨I3.kIn, ?_⟩
  rw [hks]
  exact run_fc (us := .ref a :: us) (vs := .ref a :: (vs ++ zs)) F hr hx I3 (.cons rfl (r.append rz)) (rz.length.symm.trans l2) q3
/-! ### a new instance -/
theorem run_mk {pins : List (Addr × Obj)} {σ : L2.St} {H : Hp} {s : Shared} {Q : VK} {us ws : List Value} {vs : List V} (M : Mk X.K C f) (F : Fc X.prog X.w X.K X.mg X.base k f ks sp) (hr : Rm (k + 1) X.A) (hx : Takes X W)
    (I : Inv X pins σ H s) (r : Vals vs (us ++ ws)) (hl : ws.length = ks.length)
    (h : ∀ x dx, H x = none → H dx = none → dx ≠ x → sp (.ref x :: vs) (upd (upd H dx (.own x)) x (.ins C dx [])) (fun v H2 => v = .non ∧ Q (.ref x) H2) (WE W σ)) :
    wpAny (model X.prog X.w) X.A (call (.ref C) us (ks.zip ws)) (EP X pins σ Q) X.xe s := by
  have hq := h (s.heap.objs.size + 1) s.heap.objs.size (I.hok.fresh (Nat.le_succ _)) (I.hok.fresh (Nat.le_refl _)) (Nat.ne_of_lt (Nat.lt_succ_self _))
  have I2 := Inv.made (C := C) I
  refine wpAny_call (make_map (f := f) I.kIn M.makes M.init (beq_iff_eq.mp M.fn) (codeAny_mono (F _ X.stack _ _ (Value.ref (s.heap.objs.size + 1) :: us) ws (V.ref (s.heap.objs.size + 1) :: vs) _ (WE W σ) (hr.make C us (ks.zip ws))
    (I2.env0.make C us (ks.zip ws)) (.cons rfl r) hl hq) fun r s' hq' => ?_))
  cases r with
  | error e => exact passAt hx σ pins _ _ e s' I2 hq'
  | ok fl =>
    cases fl with
    | ret u =>
      obtain ⟨v, H', I3, rv, ev, q3⟩ := I2.after hq'
      subst ev
      exact ⟨rv, ⟨V.ref (s.heap.objs.size + 1), H', I3, rfl, q3⟩⟩
    | next => exact False.elim hq'
    | brk => exact False.elim hq'
    | cont => exact False.elim hq'
def tMk (C : Addr) (sp : Sp) (W : WX) (t : TA) : TE := fun σ H Q => t σ H fun vs H1 => ∀ x dx, H1 x = none → H1 dx = none → dx ≠ x →
  sp (.ref x :: vs) (upd (upd H1 dx (.own x)) x (.ins C dx [])) (fun v H2 => v = .non ∧ Q (.ref x) H2) (WE W σ)
theorem c_make (M : Mk X.K C f) (F : Fc X.prog X.w X.K X.mg X.base k f [] sp) (hr : Rm (k + 1) X.A) (hm : X.mg x = some (.ref C)) (hx : Takes X W)
    (ha : PA X (e :: es) t) (hg : Gl X x := by rfl) (hdb : (x == ("__debug__" : Str)) = false := by decide) (he : starEach (e :: es) X.env = (false, eval e X.env) :: starEach es X.env := by rfl) (hpl : (backTo pos (starEach es X.env)).any (·.1) = false := by rfl) :
    PE X (.Call (.Name x p) (e :: es) [] pos) (tMk C sp W t) := by
  refine ⟨fun pins s σ H Q I h => ?_⟩
  refine wpAny_Call_Name_kw (ld_glob I hg hm ?_ hdb)
  refine PySem.W.callWith_K (h₀ := X.base) I.ok.mod.kin M.kp (thn (ha.run pos pins s σ H _ I h) fun us s1 ⟨vs, H1, I1, r, q⟩ => ⟨I1.kIn, ?_⟩) he hpl
  exact run_mk (ws := []) M F hr hx I1 (by rw [List.append_nil]; exact r) rfl q
theorem c_make0 (M : Mk X.K C f) (F : Fc X.prog X.w X.K X.mg X.base k f [] sp) (hr : Rm (k + 1) X.A) (hm : X.mg x = some (.ref C)) (hx : Takes X W)
    (hg : Gl X x := by rfl) (hdb : (x == ("__debug__" : Str)) = false := by decide) : PE X (.Call (.Name x p) [] [] pos) (tMk C sp W tNil) := by
  refine ⟨fun pins s σ H Q I h => ?_⟩
  refine wpAny_Call_Name_kw (ld_glob I hg hm ?_ hdb)
  exact PySem.W.callWith_K0 I.kIn M.kp (run_mk (us := []) (ws := []) M F hr hx I .nil rfl h)
def tMkK (C : Addr) (ks : List Str) (sp : Sp) (W : WX) (t tk : TA) : TE := fun σ H Q => t σ H fun vs H1 => tk σ H1 fun zs H2 => zs.length = ks.length ∧ ∀ x dx, H2 x = none → H2 dx = none → dx ≠ x →
  sp (.ref x :: (vs ++ zs)) (upd (upd H2 dx (.own x)) x (.ins C dx [])) (fun v H3 => v = .non ∧ Q (.ref x) H3) (WE W σ)
theorem c_makeK (M : Mk X.K C f) (F : Fc X.prog X.w X.K X.mg X.base k f ks sp) (hr : Rm (k + 1) X.A) (hm : X.mg x = some (.ref C)) (hx : Takes X W)
    (ha : PA X (e :: es) t) (hkw : PK X kws tk) (hg : Gl X x := by rfl) (hall : (backToKw pos (keywordEach kws X.env)).all (·.1.isSome) = true := by rfl) (hks : (backToKw pos (keywordEach kws X.env)).filterMap (·.1) = ks := by rfl)
    (hdb : (x == ("__debug__" : Str)) = false := by decide) (he : starEach (e :: es) X.env = (false, eval e X.env) :: starEach es X.env := by rfl)
    (hpl : ((backTo pos (starEach (e :: es) X.env)).any (·.1) || (backToKw pos (keywordEach kws X.env)).any (·.1.isNone)) = false := by rfl) :
    PE X (.Call (.Name x p) (e :: es) kws pos) (tMkK C ks sp W t tk) := by
  refine ⟨fun pins s σ H Q I h => ?_⟩
  refine wpAny_Call_Name_kw (ld_glob I hg hm ?_ hdb)
  refine PySem.W.callWith_KW (h₀ := X.base) I.ok.mod.kin M.kp hall (thn (ha.run pos pins s σ H _ I h) fun us s1 ⟨vs, H1, I1, r, q⟩ => ?_) hpl he
  refine thn (hkw.run pos pins s1 σ H1 _ I1 q) fun ws s2 ⟨zs, H2, I2, rz, l2, q2⟩ => ⟨I2.kIn, ?_⟩
  rw [hks]
  exact run_mk M F hr hx I2 (r.append rz) (rz.length.symm.trans l2) q2
def tMkK0 (C : Addr) (ks : List Str) (sp : Sp) (W : WX) (tk : TA) : TE := fun σ H Q => tk σ H fun zs H2 => zs.length = ks.length ∧ ∀ x dx, H2 x = none → H2 dx = none → dx ≠ x →
  sp (.ref x :: zs) (upd (upd H2 dx (.own x)) x (.ins C dx [])) (fun v H3 => v = .non ∧ Q (.ref x) H3) (WE W σ)
theorem c_makeK0 (M : Mk X.K C f) (F : Fc X.prog X.w X.K X.mg X.base k f ks sp) (hr : Rm (k + 1) X.A) (hm : X.mg x = some (.ref C)) (hx : Takes X W)
    (hkw : PK X kws tk) (hg : Gl X x := by rfl) (hall : (backToKw pos (keywordEach kws X.env)).all (·.1.isSome) = true := by rfl) (hks : (backToKw pos (keywordEach kws X.env)).filterMap (·.1) = ks := by rfl)
    (hdb : (x == ("__debug__" : Str)) = false := by decide)
    (hpl : ((backTo pos (starEach [] X.env)).any (·.1) || (backToKw pos (keywordEach kws X.env)).any (·.1.isNone)) = false := by rfl) :
    PE X (.Call (.Name x p) [] kws pos) (tMkK0 C ks sp W tk) := by
  refine ⟨fun pins s σ H Q I h => ?_⟩
  refine wpAny_Call_Name_kw (ld_glob I hg hm ?_ hdb)
  refine PySem.W.callWith_KW0 (h₀ := X.base) I.ok.mod.kin M.kp hall ?_ hpl
  refine thn (hkw.run pos pins s σ H _ I h) fun ws s2 ⟨zs, H2, I2, rz, l2, q2⟩ => ⟨I2.kIn, ?_⟩
  rw [hks]
  exact run_mk (us := []) M F hr hx I2 rz (rz.length.symm.trans l2) q2
/-! ### len, str, repr of an instance by its own methods -/
/-- xs is one instance of C; the promise of its method, at it -/
def rOwn (C : Addr) (sp : Sp) (G : V → Prop) : List V → Hp → VK → Prop := fun xs H Q => ∃ a dx fs, xs = [.ref a] ∧ H a = some (.ins C dx fs) ∧ sp [.ref a] H (fun v H' => G v ∧ Q v H') (fun _ _ _ => False)
def isLen : V → Prop
  | .int n => 0 ≤ n ∧ n < 2 ^ 63
  | _ => False
def isTxt : V → Prop
  | .str _ => True
  | _ => False
end
section
variable {X : Cx} {k : Nat} {f C : Addr} {sp : Sp}
theorem call_lenO (hm : Meth X.K C "__len__" f) (F : Fc X.prog X.w X.K X.mg X.base k f [] sp) (hr : Rm (k + 1) X.A) :
    CallR X (.builtin "len") (rOwn C sp isLen) := by
  intro pins s σ H xs us Q I r h
  obtain ⟨a, dx, fs, rfl, ha, hsp⟩ := h
  obtain ⟨u, rfl, ru⟩ := vals1 r
  obtain rfl : u = Value.ref a := ru
  obtain ⟨mA, J, _⟩ := ins_get I.hok ha
  obtain ⟨od, J, _⟩ := J.look
  refine Calls.call_function_entry kind_len plain_len entry_len (args_len1 _) ?_
  unfold Builtin.«len»
  refine wpAny_bind (m := oneArg "len" _) (wpAny_pure ?_)
  have run := run_fcA (A := X.A.in1) (W := fun _ _ _ _ => False) (us := [.ref a]) (ws := []) (vs := [.ref a]) (σ := σ) F hr.in1 rfl takes0 I (.cons rfl .nil) rfl hsp
  refine wpAny_bind (m := callSpecial? (.ref a) (Str.ofString "__len__")) (PySem.W.special_fn I.kIn J hm.at_ (beq_iff_eq.mp hm.fn) (wpAny_mono run (fun v s' hv => ?_) fun _ _ y => y))
  obtain ⟨z, H', I', rz, gz, q⟩ := hv
  cases z with
  | int n =>
    obtain ⟨t, rfl⟩ := rz
    obtain ⟨h0, h1⟩ : 0 ≤ n ∧ n < 2 ^ 63 := gz
    refine wpAny_bind (wpAny_holding (wpAny_pure ?_))
    refine wpAny_bind (wpAny_letGo ?_)
    show wpAny _ _ (if n < 0 then _ else _) _ _ _
    rw [if_neg (by omega)]
    show wpAny _ _ (if n ≥ 2 ^ 63 then _ else _) _ _ _
    rw [if_neg (by omega)]
    exact wpAny_bind (wpAny_mkInt (wpAny_pure ⟨_, rfl, ⟨.int n, H', I'.tok _, ⟨_, rfl⟩, q⟩⟩))
  | _ => exact gz.elim
theorem call_reprO (hm : Meth X.K C "__repr__" f) (F : Fc X.prog X.w X.K X.mg X.base k f [] sp) (hr : Rm (k + 1) X.A) :
    CallR X (.builtin "repr") (rOwn C sp isTxt) := by
  intro pins s σ H xs us Q I r h
  obtain ⟨a, dx, fs, rfl, ha, hsp⟩ := h
  obtain ⟨u, rfl, ru⟩ := vals1 r
  obtain rfl : u = Value.ref a := ru
  obtain ⟨mA, J, _⟩ := ins_get I.hok ha
  obtain ⟨od, J, _⟩ := J.look
  refine Calls.call_function_entry PySem.F.kind_repr PySem.F.plain_repr PySem.F.entry_repr (PySem.F.args_repr1 _) ?_
  unfold Builtin.«repr»
  refine wpAny_bind (m := oneArg "repr" _) (wpAny_pure ?_)
  refine wpAny_bind (wpAny_cRoomFor (by have := hr.in1.rm.un; omega) ?_)
  refine wpAny_bind (wpAny_bind (J.type.here ((PySem.W.looks_findIn I.kIn hm.at_).here ?_)))
  show wpAny _ _ (if (some (Value.ref f)).isNone = true then _ else _) _ _ _
  rw [if_neg (by simp)]
  have run := run_fcA (A := X.A.in1) (W := fun _ _ _ _ => False) (us := [.ref a]) (ws := []) (vs := [.ref a]) (σ := σ) F hr.in1 rfl takes0 I (.cons rfl .nil) rfl hsp
  refine wpAny_bind (m := callSpecialIfBound? (.ref a) (Str.ofString "__repr__") _) (PySem.W.ifBound_K I.kIn J hm.at_ hm.fn (wpAny_mono run (fun v s' hv => ?_) fun _ _ y => y))
  obtain ⟨z, H', I', rz, gz, q⟩ := hv
  cases z with
  | str y =>
    obtain ⟨t, rfl⟩ := rz
    refine wpAny_bind (wpAny_isInstance (typeIs_str _ _ _) isSubtype_str_str ?_)
    first
      | exact wpAny_pure ⟨_, rfl, ⟨.str y, H', I', ⟨t, rfl⟩, q⟩⟩
      | (rw [if_pos rfl]; exact wpAny_pure ⟨_, rfl, ⟨.str y, H', I', ⟨t, rfl⟩, q⟩⟩)
      | (simp only [if_true]; exact wpAny_pure ⟨_, rfl, ⟨.str y, H', I', ⟨t, rfl⟩, q⟩⟩)
  | _ => exact gz.elim
theorem call_strO (hm : Meth X.K C "__str__" f) (F : Fc X.prog X.w X.K X.mg X.base k f [] sp) (hr : Rm (k + 2) X.A) :
    CallR X (.type "str") (rOwn C sp isTxt) := by
  intro pins s σ H xs us Q I r h
  obtain ⟨a, dx, fs, rfl, ha, hsp⟩ := h
  obtain ⟨u, rfl, ru⟩ := vals1 r
  obtain rfl : u = Value.ref a := ru
  obtain ⟨mA, J, _⟩ := ins_get I.hok ha
  obtain ⟨od, J, _⟩ := J.look
  have run := run_fcA (A := X.A.in1.in1) (W := fun _ _ _ _ => False) (us := [.ref a]) (ws := []) (vs := [.ref a]) (σ := σ) F hr.in1.in1 rfl takes0 I (.cons rfl .nil) rfl hsp
  refine PySem.W.kso_call (by have := hr.in1.in1.rm.un; omega) I.kIn J hm.at_ hm.fn (wpAny_mono run (fun v s' hv => ?_) fun _ _ y => y)
  obtain ⟨z, H', I', rz, gz, q⟩ := hv
  cases z with
  | str y =>
    obtain ⟨t, rfl⟩ := rz
    exact ⟨.str y, H', I', ⟨t, rfl⟩, q⟩
  | _ => exact gz.elim
end
/-! ### isinstance of instances -/
structure InsC (K : PySem.W.Frag) (C : Addr) : Prop where
  ha : PySem.W.findIn K (.ref C) "__class__" = some (some (.builtin "object.__class__"))
  hn : PySem.W.specialIn K (.builtin "object.__class__") "__get__" = some (some (.builtin "getset_descriptor.__get__"))
  ht : PySem.W.takesIn K (.builtin "object.__class__") = some true
  hm : PySem.W.mroIn K C (.type "object") = some true
def insB (x : Str) : Fx := fun K => He.eqO (PySem.W.findIn K (.ref (He.ga K x)) "__class__") (some (some (.builtin "object.__class__"))) && (He.eqO (PySem.W.specialIn K (.builtin "object.__class__") "__get__") (some (some (.builtin "getset_descriptor.__get__"))) &&
  (decide (PySem.W.takesIn K (.builtin "object.__class__") = some true) && decide (PySem.W.mroIn K (He.ga K x) (.type "object") = some true)))
theorem insC_of {x : Str} {K : PySem.W.Frag} (h : insB x K = true) : InsC K (He.ga K x) := by
  obtain ⟨h1, h⟩ := He.ba h
  obtain ⟨h2, h⟩ := He.ba h
  obtain ⟨h3, h4⟩ := He.ba h
  exact ⟨He.eqO_ok h1, He.eqO_ok h2, of_decide_eq_true h3, of_decide_eq_true h4⟩
theorem ty_ins {K : PySem.W.Frag} {H : Hp} {a C dx : Addr} {fs : List (Str × V)} (i : InsC K C) (c : Cls K C) (e : H a = some (.ins C dx fs)) : TyX K H (.ref a) (.ref C) := .base (.ins e c i.ha i.hn i.ht i.hm)
def kitBF (y : String) (x : Str) (b : Bool) : Fx := fun K => decide (PySem.W.kitOne K (.type y) (.ref (He.ga K x)) = some b)
def exm1F (x y : Str) (b : Bool) : Fx := fun K => decide (PySem.W.exmOne K (.ref (He.ga K x)) (.ref (He.ga K y)) = some b)
def sameF (x y m : Str) : Fx := fun K => decide (He.ma K (He.ga K x) m = He.ma K (He.ga K y) m)
/-! ### the same rules with the written part named (for bodies of comprehensions) -/
section
variable {X : Cx} {K : PySem.W.Frag}
theorem op_in_seqK (K : PySem.W.Frag) (h : X.K = K := by rfl) : OpR X (compareOp .In) (rIn K false) := h ▸ op_in_seq
theorem op_notIn_seqK (K : PySem.W.Frag) (h : X.K = K := by rfl) : OpR X (compareOp .NotIn) (rIn K true) := h ▸ op_notIn_seq
theorem ix_listK (K : PySem.W.Frag) (h : X.K = K := by rfl) : IxR X (rIxL K) := h ▸ ix_list
theorem ix_tupK (K : PySem.W.Frag) (h : X.K = K := by rfl) : IxR X (rIxT K) := h ▸ ix_tup
theorem call_lenK (K : PySem.W.Frag) (h : X.K = K := by rfl) : CallR X (.builtin "len") (fun xs H Q => ∃ x n, xs = [x] ∧ LenV K x H n ∧ Q (.int n) H) := h ▸ call_len
theorem pe_fldK (K : PySem.W.Frag) {e : Expr} {f : Str} {pos : Pos} {ta : TE} (he : PE X e ta) (hb : attributeBase e f X.env (eval e X.env) = eval e X.env) (h : X.K = K := by rfl) : PE X (.Attribute e f pos) (tFld K ta f) := h ▸ pe_fld he hb
theorem op_eqDK (K : PySem.W.Frag) (hu : X.A.units + 64 < cLine) (h : X.K = K := by rfl) : OpR X (compareOp .Eq) (rEqD K) := h ▸ op_eqD hu
theorem op_neDK (K : PySem.W.Frag) (hu : X.A.units + 64 < cLine) (h : X.K = K := by rfl) : OpR X (compareOp .NotEq) (rNeD K) := h ▸ op_neD hu
theorem cr_allK (K : PySem.W.Frag) (hc : X.calm = true) (h : X.K = K := by rfl) : CallR X (.builtin "all") (rAll K) := h ▸ cr_all hc
theorem call_reprK (K : PySem.W.Frag) {k : Nat} (hr : Rm k X.A) (h : X.K = K := by rfl) : CallR X (.builtin "repr") (rRepr K) := h ▸ call_repr hr
/-- repr(text) -/
theorem call_repr_str : CallR X (.builtin "repr") (fun xs H Q => ∃ x, xs = [.str x] ∧ (reprText x).length ≤ sizeLine ∧ Q (.str (reprText x)) H) := by
  intro pins s σ H xs us Q I r h
  obtain ⟨i, rfl, hz, q⟩ := h
  obtain ⟨u, rfl, t, rfl⟩ := vals1 r
  exact PySem.P.repr_of_str ⟨.str _, H, I.tok _, ⟨_, rfl⟩, q⟩ hz
end
end L3
set_option Elab.async false
set_option linter.all false
set_option maxRecDepth 100000
set_option maxHeartbeats 4000000
namespace L3
open PySem PySem.Spec PyProof.Rows L2
/-! ### repr of a plain text -/
def okC (c : Nat) : Bool := decide (32 ≤ c) && (decide (c ≤ 126) && (decide (c ≠ 39) && decide (c ≠ 92)))
theorem okC_char : ∀ {c : Nat}, okC c = true → Builtin.Str.reprChar 39 c = [c] := by
  have all : ∀ c, c < 127 → okC c = true → Builtin.Str.reprChar 39 c = [c] := by decide +kernel
  intro c h
  refine all c ?_ h
  have := of_decide_eq_true (Bool.and_eq_true_iff.mp (Bool.and_eq_true_iff.mp h).2).1
  omega
theorem repr_fold : ∀ (l : List Nat) (acc : Array Nat), l.all okC = true → l.foldl (fun out c => out ++ (Builtin.Str.reprChar 39 c).toArray) acc = acc ++ l.toArray
  | [], acc, _ => by simp
  | c :: r, acc, h => by
    obtain ⟨h1, h2⟩ := He.ba (show (okC c && r.all okC) = true from h)
    rw [List.foldl_cons, okC_char h1, repr_fold r _ h2]
    simp
theorem repr_plain {l : List Nat} (h : l.all okC = true) : reprText (SX.S l) = SX.S (39 :: l ++ [39]) := by
  have n39 : (SX.S l).cps.contains 39 = false := by
    cases e : (SX.S l).cps.contains 39 with
    | false => rfl
    | true =>
      have m : 39 ∈ l := by simpa using e
      exact absurd (List.all_eq_true.mp h 39 m) (by decide)
  have q : reprQuote (SX.S l) = 39 := by
    unfold reprQuote
    rw [n39]
    rfl
  unfold reprText
  rw [q]
  have e := repr_fold l #[39] h
  have e2 : (SX.S l).cps.foldl (fun out c => out ++ (Builtin.Str.reprChar 39 c).toArray) #[39] = l.foldl (fun out c => out ++ (Builtin.Str.reprChar 39 c).toArray) #[39] := by simp
  rw [e2, e]
  refine TL.ext_tl ?_
  show (((#[39] ++ l.toArray).push 39).toList) = _
  simp
theorem repr_plain_len {l : List Nat} (h : l.all okC = true) : (reprText (SX.S l)).length = l.length + 2 := by
  rw [repr_plain h, SX.S_len]
  simp
theorem okC_le {l : List Nat} (p : Nat → Bool) (hp : ∀ c, p c = true → okC c = true) (h : l.all p = true) : l.all okC = true := List.all_eq_true.mpr fun c hc => hp c (List.all_eq_true.mp h c hc)
/-! ### a comprehension whose items are not told one by one -/
section
variable {J : It} {n : Nat} {G : Hp → Prop} {Y : Nat → Hp → V → Hp → Prop} {g : TG} {tt : TT} {te : TE} {vs : List Nat} {σ : L2.St} {H1 : Hp} {D : Addr} {Qd : Hp → Prop}
theorem lc_any (w : L2.Walk J n G Y) (I : Nat → List V → Hp → Prop) (hI : ∀ i acc H l, I i acc H → I i acc (upd H D (.lst l))) (i0 : I 0 [] H1) (hn : n ≤ 100000) (hl : ∀ i acc H, I i acc H → acc.length ≤ i) (hG : ∀ i acc H, I i acc H → G H)
    (hs : ∀ (i : Nat) (x : V) (H H' : Hp) (acc : List V) (N : Hp → Prop), i < n → I i acc H → H D = some (.lst acc) → acc.length < sizeLine → Y i H x H' →
      (∀ y H4, H4 D = some (.lst acc) → I (i + 1) (acc ++ [y]) H4 → N (upd H4 D (.lst (acc ++ [y])))) → (∀ H4, H4 D = some (.lst acc) → I (i + 1) acc H4 → N H4) → Turn g tt te vs σ D x H' N)
    (hd : ∀ acc H, I n acc H → H D = some (.lst acc) → Qd H) :
    ∃ W : Nat → Nat → Hp → Prop, (∃ m, W 0 m (upd H1 D (.lst []))) ∧ ∀ i m H, W i m H →
      (J.stop i H ∧ Qd H) ∨ (J.go i H ∧ ∃ Nx : Hp → Prop, (∀ H', Nx H' → ∃ m', m' < m ∧ W (i + 1) m' H') ∧ ∀ x H', J.yld i H x H' → Turn g tt te vs σ D x H' Nx) := by
  refine L2.lc_it w (fun i H => i ≤ n ∧ ∃ acc, I i acc H ∧ H D = some (.lst acc)) ⟨Nat.zero_le _, [], hI _ _ _ _ i0, upd_same⟩ (fun i H _ p => ?_) ?_ (fun H p => ?_)
  · obtain ⟨_, acc, p, _⟩ := p
    exact hG i acc H p
  · rintro i x H H' hi ⟨p1, acc, p2, p3⟩ y
    have := hl _ _ _ p2
    refine hs i x H H' acc _ hi p2 p3 (small_len (by omega)) y (fun y H4 d4 i4 => ⟨hi, _, hI _ _ _ _ i4, upd_same⟩) fun H4 d4 i4 => ⟨hi, _, i4, d4⟩
  · obtain ⟨_, acc, p, d⟩ := p
    exact hd acc H p d
end
/-! ### try, its reading named -/
def tTryOnly (K : PySem.W.Frag) (c : Value) (ts : Addr → Value → Option Addr → TS) (Wout : WX) (tb : WX → TS) : TS := fun D σ H => tb (wOnly K c ts Wout D) D σ H
def tTryTup (K : PySem.W.Frag) (cs : List Value) (i : Nat) (ts : Addr → Value → Option Addr → TS) (tb : WX → TS) : TS := fun D σ H => tb (wTup K cs i ts D) D σ H
section
variable {X : Cx} {x x1 x2 x3 n : Str} {c c1 c2 c3 : Value} {i k3 : Nat} {body suite : List Stmt} {b₀ : Stmt} {np p1 p2 p3 tp pos pos' : Pos} {tb : WX → TS} {ts : Addr → Value → Option Addr → TS} {Wout : WX}
theorem ps_tryO (hs : X.stack = X.env :: X.outer) (hf : X.env.frame = some X.env.locals) (hc : Names X x c) (tk : Takes X Wout)
    (hb : ∀ (W : WX) (pn : List (Addr × Obj)) (xe : Value → Shared → Prop), Takes (X.tr pn xe) W → PassesOwn (model X.prog X.w) X.A X.env xe → PSs (X.tr pn xe) body (tb W))
    (hsu : ∀ (a : Addr) (oe : Obj) (cls : Value) (d : Option Addr) (pn : List (Addr × Obj)), Zc cls d oe → (∃ vs, oe.data = .fields vs) → PSs (X.suite a ((a, oe) :: pn)) (b₀ :: suite) (ts a cls d)) :
    PS X (.Try body [.ExceptHandler (some (.Name x np)) none (b₀ :: suite) pos'] [] [] pos) (tTryOnly X.K c ts Wout tb) := ps_try_only hs hf hc tk hb hsu
theorem ps_tryT (hs : X.stack = X.env :: X.outer) (hf : X.env.frame = some X.env.locals) (hN : X.N.Nodup) (hi : X.N[i]? = some n) (hln : X.env.kindOf n = some .local)
    (m1 : X.mg x1 = some c1) (m2 : X.mg x2 = some c2) (m3 : X.mg x3 = some c3)
    (hb : ∀ (W : WX) (pn : List (Addr × Obj)) (xe : Value → Shared → Prop), Takes (X.tr pn xe) W → PassesOwn (model X.prog X.w) X.A X.env xe → PSs (X.tr pn xe) body (tb W))
    (hsu : ∀ (a : Addr) (oe : Obj) (cls : Value) (d : Option Addr) (pn : List (Addr × Obj)), Zc cls d oe → (∃ vs, oe.data = .fields vs) → PSs (X.suite a ((a, oe) :: pn)) (b₀ :: suite) (ts a cls d))
    (g1 : Gl X x1 := by rfl) (g2 : Gl X x2 := by rfl) (g3 : Gl X x3 := by rfl) (d1 : (x1 == ("__debug__" : Str)) = false := by decide) (d2 : (x2 == ("__debug__" : Str)) = false := by decide) (d3 : (x3 == ("__debug__" : Str)) = false := by decide) :
    PS X (.Try body [.ExceptHandler (some (.Tuple [.Name x1 p1, .Name x2 p2, .Name x3 p3] k3 tp)) (some n) (b₀ :: suite) pos'] [] [] pos) (tTryTup X.K [c1, c2, c3] i ts tb) := ps_try_tup hs hf hN hi hln m1 m2 m3 hb hsu g1 g2 g3 d1 d2 d3
end
end L3
set_option Elab.async false
set_option linter.all false
set_option maxRecDepth 100000
set_option maxHeartbeats 4000000
/-! ### sorted(xs) of whole numbers, xs a list or a tuple -/
namespace SrtA
open PySem PyProof.Rows Srt SrtO
section
variable {prog : Program} {w : World} {A : Around} {E : Value → Shared → Prop} {s : Shared}
theorem collect_tup {l : Addr} {vs : List Value} {Q : List Value → Shared → Prop} (hl : s.heap.IsTuple l vs.toArray)
    (h : Q vs { s with heap := (s.heap.push (seqObj "list" #[] 0)).update s.heap.objs.size (Obj.mapSeq (· ++ vs.toArray)) }) (hsz : vs.length ≤ sizeLine) :
    wpAny (model prog w) A (collect (.ref l)) Q E s := by
  obtain ⟨o, ho, hc, n, hd⟩ := id hl
  unfold collect
  refine wpAny_bind (wpAny_runValue (codeAny_builtin entry_proto_collect' ?_))
  show wpAny _ _ (do again (.builtin "list.__iadd__" ⟨[← newList [], .ref l], []⟩)) _ _ s
  refine wpAny_bind (wpAny_newList (wpAny_pure ⟨Code.quiet_builtin _ (by decide +kernel), codeAny_builtin entry_list_iadd' ?_⟩))
  show wpAny _ _ (Builtin.List.listExtendWith (.ref s.heap.objs.size) (.ref l) (.ref s.heap.objs.size)) _ _ { s with heap := s.heap.push (seqObj "list" #[] 0) }
  unfold Builtin.List.listExtendWith
  have ho' : (s.heap.push (seqObj "list" #[] 0)).get? l = some o := Heap.get?_push_of_some _ ho
  refine wpAny_bind (wpAny_typeOf (T := "tuple") ⟨o, ho', hc⟩ ?_)
  have ht : (Value.type "tuple" == Value.type "tuple") = true := by rfl
  rw [if_pos (by rw [ht]; simp)]
  refine wpAny_bind (listItems_at ho' hd ?_)
  refine wpAny_bind (listItems_at (xs := #[]) (n := 0) (Heap.get?_push_size _ rfl) rfl ?_)
  rw [if_neg (by simp)]
  refine wpAny_bind (listUpdate_at (xs := #[]) (n := 0) (Heap.get?_push_size _ rfl) rfl ?_ (Nat.zero_le _) (by show (#[] ++ vs.toArray).size ≤ sizeLine + 1; simp only [Array.size_append, List.size_toArray, List.length_nil]; omega))
  refine wpAny_pure ?_
  show wpAny (model prog w) A (do
      let o ← load s.heap.objs.size
      match o.data with
      | .seq xs _ => pure xs.toList
      | _ => unsupported "internal:collect") Q E { s with heap := (s.heap.push (seqObj "list" #[] 0)).update s.heap.objs.size (Obj.mapSeq (· ++ vs.toArray)) }
  refine wpAny_bind (wpAny_load (get?_update_seq (Heap.get?_push_size _ rfl) _) ?_)
  show wpAny _ _ (pure ((#[] : Array Value) ++ vs.toArray).toList) Q E _
  rw [show ((#[] : Array Value) ++ vs.toArray).toList = vs by simp]
  exact wpAny_pure h
theorem sorted_tup {l : Addr} {vs : List Value} {ltv : Value → Value → Bool} {Q : Value → Shared → Prop} (O : Swo ltv) (hl : s.heap.IsTuple l vs.toArray) (hz : vs.length ≤ sizeLine)
    (hS : 2 ≤ vs.length → ∀ (h₁ : Heap) (a : Addr), h₁.get? a = some (seqObj "list" vs.toArray 0) → (∀ b o, s.heap.get? b = some o → b ≠ a ∧ h₁.get? b = some o) → SortableO prog w A.in1.in1 { s with heap := h₁ } a vs ltv)
    (h : ∀ out : List Value, Srtd ltv out → Stb ltv out vs → Q (.ref (s.heap.objs.size + 1)) { s with heap := sortedAll s.heap vs out.toArray }) :
    wpAny (model prog w) A (call (.builtin "sorted") [.ref l]) Q E s := by
  refine Calls.call_function_entry kind_sorted plain_sorted entry_sorted (args_sorted1 _) ?_
  unfold Builtin.«sorted»
  refine wpAny_bind (m := checkCount "sorted" 1 1 _) (wpAny_pure ?_)
  refine wpAny_bind (collect_tup hl ?_ hz)
  refine wpAny_bind (wpAny_newList ?_ hz)
  have hsz : ((s.heap.push (seqObj "list" #[] 0)).update s.heap.objs.size (Obj.mapSeq (· ++ vs.toArray))).objs.size = s.heap.objs.size + 1 := by
    rw [Heap.size_update, size_push']
  have hoL : (((s.heap.push (seqObj "list" #[] 0)).update s.heap.objs.size (Obj.mapSeq (· ++ vs.toArray))).push (seqObj "list" vs.toArray 0)).get? (s.heap.objs.size + 1) = some (seqObj "list" vs.toArray 0) := by
    rw [← hsz]; exact Heap.get?_push_size _ rfl
  have keep : ∀ b o, s.heap.get? b = some o → b ≠ s.heap.objs.size + 1 ∧ (((s.heap.push (seqObj "list" #[] 0)).update s.heap.objs.size (Obj.mapSeq (· ++ vs.toArray))).push (seqObj "list" vs.toArray 0)).get? b = some o := fun b o q => by
    have hlt : b < s.heap.objs.size := Heap.lt_size q
    refine ⟨Nat.ne_of_lt (Nat.lt_succ_of_lt hlt), Heap.get?_push_of_some _ ?_⟩
    rw [Heap.get?_update_ne _ _ _ _ (Nat.ne_of_lt hlt)]
    exact Heap.get?_push_of_some _ q
  show wpAny _ _ _ _ _ { s with heap := ((s.heap.push (seqObj "list" #[] 0)).update s.heap.objs.size (Obj.mapSeq (· ++ vs.toArray))).push (seqObj "list" vs.toArray 0) }
  rw [hsz]
  refine wpAny_bind (wpAny_holding (wpAny_call_entry slot_list_sort ⟨_, hoL, rfl⟩ entry_list_sort (list_sort_ord O hoL hz (fun h2 => hS h2 _ _ hoL keep) fun out hs hb => ⟨_, rfl, ?_⟩) (args_list_sort _)))
  exact wpAny_pure ⟨_, rfl, h out hs hb⟩
end
end SrtA
namespace L3
open PySem PySem.Spec PyProof.Rows L2
/-- the numbers in order -/
def srt (ns : List Int) : List Int := ns.mergeSort (fun a b => decide (a ≤ b))
theorem srt_perm (ns : List Int) : (srt ns).Perm ns := List.mergeSort_perm ns _
theorem srt_sorted (ns : List Int) : (srt ns).Pairwise (· ≤ ·) := by
  have h := List.pairwise_mergeSort (le := fun a b : Int => decide (a ≤ b)) (fun a b c h1 h2 => decide_eq_true (Int.le_trans (of_decide_eq_true h1) (of_decide_eq_true h2))) (fun a b => by
    rcases Int.le_total a b with h | h
    · rw [decide_eq_true h]; rfl
    · rw [decide_eq_true h, Bool.or_true]) ns
  exact h.imp fun h => of_decide_eq_true h
theorem sorted_uniq : ∀ {xs ys : List Int}, xs.Perm ys → xs.Pairwise (· ≤ ·) → ys.Pairwise (· ≤ ·) → xs = ys
  | [], ys, p, _, _ => p.nil_eq
  | x :: xs, [], p, _, _ => absurd p.symm.nil_eq (by simp)
  | x :: xs, y :: ys, p, hx, hy => by
    have e : x = y := by
      have h1 : x ∈ y :: ys := p.subset List.mem_cons_self
      have h2 : y ∈ x :: xs := p.symm.subset List.mem_cons_self
      have l1 : y ≤ x := by
        rcases List.mem_cons.mp h1 with h | h
        · omega
        · exact (List.pairwise_cons.mp hy).1 x h
      have l2 : x ≤ y := by
        rcases List.mem_cons.mp h2 with h | h
        · omega
        · exact (List.pairwise_cons.mp hx).1 y h
      omega
    subst e
    rw [sorted_uniq (List.perm_cons x |>.mp p) (List.pairwise_cons.mp hx).2 (List.pairwise_cons.mp hy).2]
theorem srt_eq {xs ns : List Int} (p : xs.Perm ns) (h : xs.Pairwise (· ≤ ·)) : xs = srt ns := sorted_uniq (p.trans (srt_perm ns).symm) h (srt_sorted ns)
/-- sorted(xs), xs a list or a tuple of whole numbers -/
def rSortedA (K : PySem.W.Frag) : List V → Hp → VK → Prop := fun vs H Q => ∃ (a : Addr) (ns : List Int), vs = [V.ref a] ∧ (SqL K H a (ns.map V.int) ∨ SqT K H a (ns.map V.int)) ∧ ∀ p : Addr, H p = none → Q (.ref p) (upd H p (.lst ((srt ns).map V.int)))
section
variable {X : Cx}
theorem cr_sortedA (K : PySem.W.Frag) (hK : X.K = K := by rfl) : CallR X (.builtin "sorted") (rSortedA K) := by
  subst hK
  intro pins s σ H vs us Q I r h
  obtain ⟨a, ns, rfl, hs | hs, q⟩ := h
  · exact cr_sortedI pins s σ H [.ref a] us Q I r ⟨a, ns, rfl, hs, fun ns' p h1 h2 hp => by rw [srt_eq h1 h2]; exact q p hp⟩
  · obtain ⟨its, rv, hl, hz⟩ := I.tuple hs
    rw [Vals.ref1 r]
    have hi := rv.ints
    refine SrtA.sorted_tup SrtO.swo_int hl (by rw [← rv.length]; exact hz) (fun h2 h₁ a' _ _ => SrtO.ints_sortable hi h2) fun out h1 h2 => ?_
    obtain ⟨k1, k2, k3⟩ := SrtO.ints_out hi h1 h2
    obtain ⟨ep, he'⟩ := PyProof.Rows.sortedAll_at s.heap its out.toArray
    have hlen : ((out.map SrtO.iv).map V.int).length ≤ sizeLine := by
      rw [List.length_map, k2.length_eq]
      rw [List.length_map] at hz
      exact hz
    have q2 := q (s.heap.objs.size + 1) (I.hok.fresh (Nat.le_succ _))
    rw [← srt_eq k2 k3] at q2
    exact ⟨.ref _, upd H (s.heap.objs.size + 1) (.lst ((out.map SrtO.iv).map V.int)), I.laid (t' := s.toks) (fun _ _ => PyProof.Rows.sortedAll_old) (Nat.le_succ _) ⟨hlen, out, ep, vals_of_ints k1, he'⟩, rfl, q2⟩
end
/-! ### what is a list or a tuple, walked; zip of tuples; targets with the written part named -/
section
variable {X : Cx} {K : PySem.W.Frag}
def iSeq (K : PySem.W.Frag) (tl : TE) : TI := fun σ H R => iList K tl σ H R ∨ iTup K tl σ H R
theorem pi_seq {tg l : Expr} {tl : TE} (hl : PE X l tl) : PI X tg l (iSeq X.K tl) := ⟨fun pins s σ H R I h => h.elim ((pi_list hl).run pins s σ H R I) ((pi_tup hl).run pins s σ H R I)⟩
theorem pg_tupK (K : PySem.W.Frag) {es : List Expr} {k : Nat} {t : TGs} {n : Nat} {pos : Pos} (hc : X.calm = true) (h : PGs X es t)
    (hn : (assignEach es X.env).length = n := by rfl) (hst : (assignEach es X.env).findIdx? (·.1) = none := by rfl) (hK : X.K = K := by rfl) : PG X (.Tuple es k pos) (gTup K n t) := hK ▸ pg_tup hc h hn hst
theorem walk_zipT {a b : Addr} {xs ys : List V} {n : Nat} (hn : n = min xs.length ys.length) : L2.Walk (RZ.ItzT K a b) n (fun H => SqT K H a xs ∧ SqT K H b ys) (L2.YPair (fun i => xs[i]?) (fun i => ys[i]?)) := by
  subst hn
  refine ⟨fun i _ hi q => ?_, fun _ q => ⟨xs, ys, q.1, q.2, by omega⟩, fun i H v H' _ q y => ?_⟩
  · have h1 : i < xs.length := by omega
    have h2 : i < ys.length := by omega
    exact ⟨xs, ys, xs[i], ys[i], q.1, q.2, by simp [h1], by simp [h2]⟩
  · obtain ⟨T, x, z, h1, h2, h3, h4, h5⟩ := y
    exact ⟨T, x, z, h1, h2, h3, h4 xs q.1, h5 ys q.2⟩
theorem inV_int (d : Int) (ns : List Int) : inV (.int d) (ns.map V.int) = decide (d ∈ ns) := by
  induction ns with
  | nil => rfl
  | cons n r ih =>
    show (eqV (.int n) (.int d) || inV (.int d) (r.map V.int)) = _
    rw [ih]
    have e : eqV (.int n) (.int d) = decide (d = n) := by
      show decide (n = d) = _
      exact decide_eq_decide.mpr ⟨fun h => h.symm, fun h => h.symm⟩
    rw [e]
    by_cases h : d = n
    · simp [h]
    · simp [h]
theorem flat_ints (ns : List Int) : (ns.map V.int).all flatV = true := by
  induction ns with
  | nil => rfl
  | cons n r ih => exact (Bool.and_eq_true_iff.mpr ⟨rfl, ih⟩)
end
theorem isM_nat (n : Nat) : isM (.int (n : Int)) = true := decide_eq_true (Int.natCast_nonneg n)
theorem isM_no {n : Nat} {C : Prop} (h : isM (.int (n : Int)) = false) : C := absurd ((isM_nat n).symm.trans h) Bool.noConfusion
end L3
set_option Elab.async false
set_option linter.all false
set_option maxRecDepth 100000
set_option maxHeartbeats 4000000
namespace L3
open PySem PySem.Spec PyProof.Rows L2
/-! ### sorted(d), d a dict of whole numbers, any many; list.sort of intsA at the model's level -/
section
variable {X : Cx}
def rSortedDI : List V → Hp → VK → Prop := fun xs H Q => ∃ (a : Addr) (kvs : List (Key × V)) (ks : List Int), xs = [.ref a] ∧ Rd H a (.dK kvs) ∧ kvs.map (·.1) = ks.map Sum.inl ∧ ∀ p : Addr, H p = none → Q (.ref p) (upd H p (.lst ((srt ks).map V.int)))
theorem call_sortedDA (cm : X.calm = true) : CallR X (.builtin "sorted") rSortedDI := by
  intro pins s σ H xs us Q I r q
  obtain ⟨a, kvs, ks, rfl, hd, kk, q⟩ := q
  obtain ⟨u, rfl, rx⟩ := vals1 r
  cases rx
  obtain ⟨zl, lo, vs, rel, dd⟩ := dk_rd I.hok hd
  obtain ⟨ep, hat⟩ := dd.dictAt
  have kv : vs.map (·.1) = ks.map Sum.inl := rel.keys.symm.trans kk
  have vl : vs.length = ks.length := by
    have := congrArg List.length kv
    simpa using this
  have sz : vs.length ≤ sizeLine := by rw [← rel.length]; exact zl
  refine Calls.call_function_entry kind_sorted plain_sorted entry_sorted (args_sorted1 _) ?_
  unfold Builtin.«sorted»
  refine wpAny_bind (m := checkCount "sorted" 1 1 _) (wpAny_pure ?_)
  refine wpAny_bind (PySem.W.kdu_collect (A := X.A.in1) (PySem.W.kdl_dict (knd := mixKind X.prog X.w) (kvs := vs) (ep := ep) lo) (I.ok.hd cm) hat sz fun h1 tk acc keep facc => ?_)
  have la : acc.toList.length = ks.length := by rw [Array.length_toList, facc.1, vl]
  have iv : IntsAre acc.toList ks := ints_each la fun j v e => by
    obtain ⟨k, x, e1, e2⟩ := facc.2 j v (by rw [← Array.getElem?_toList]; exact e)
    have f3 : (vs.map (·.1))[j]? = some k := by rw [List.getElem?_map, e1]; rfl
    rw [kv, List.getElem?_map] at f3
    obtain ⟨y, f4, f5⟩ := Option.map_eq_some_iff.mp f3
    subst f5
    rcases keyIs_shape (show keyIs (Sum.inl y) v = true from e2) with ⟨i, t, ek, ev⟩ | ⟨z, t, ek, ev⟩
    · cases ek
      exact ⟨y, t, f4, ev⟩
    · cases ek
  have J : Inv X pins σ H { s with heap := h1, toks := tk } := I.kept keep
  have l1 : acc.toList.length ≤ sizeLine := by rw [la, ← vl]; exact sz
  refine wpAny_bind (wpAny_newList ?_ l1)
  have at1 : (h1.push (seqObj "list" acc.toList.toArray 0)).get? h1.objs.size = some (seqObj "list" acc.toList.toArray 0) := Heap.get?_push_size _ rfl
  show wpAny _ _ _ _ _ { s with heap := h1.push (seqObj "list" acc.toList.toArray 0), toks := tk }
  refine wpAny_bind (wpAny_holding (wpAny_call_entry slot_list_sort ⟨_, at1, rfl⟩ entry_list_sort
    (SrtO.list_sort_ord (s := { s with heap := h1.push (seqObj "list" acc.toList.toArray 0), toks := tk }) SrtO.swo_int at1 l1 (fun h2 => SrtO.ints_sortable iv h2) fun out g1 g2 => ⟨_, rfl, ?_⟩) (args_list_sort _)))
  obtain ⟨k1, k2, k3⟩ := SrtO.ints_out iv g1 g2
  obtain ⟨e2, at2⟩ := sortedHeap_at (vs := acc.toList) (out := out.toArray) at1
  have ln : ((srt ks).map V.int).length ≤ sizeLine := by
    rw [List.length_map, (srt_perm ks).length_eq, ← la]
    exact l1
  have q2 := q h1.objs.size (J.hok.fresh (Nat.le_refl _))
  have es := srt_eq k2 k3
  refine wpAny_pure ⟨_, rfl, .ref h1.objs.size, _, J.laid (t' := tk) (fun b u e => ?_) (Nat.le_refl _) (show ObjOk X.prog X.w _ _ _ (.lst ((srt ks).map V.int)) from ⟨ln, out, e2, by rw [← es]; exact vals_of_ints k1, at2⟩), rfl, q2⟩
  have lt : b < h1.objs.size := Heap.lt_size e
  rw [sortedHeap_old (Nat.ne_of_lt lt) (by rw [size_push']; exact Nat.lt_succ_of_lt lt)]
  exact Heap.get?_push_of_some _ e
end
/-! ### set(xs), xs a list or a tuple of whole numbers; sorted of it -/
section
variable {P : Program} {w : World} {A : Around} {E : Value → Shared → Prop} {s : Shared}
abbrev newSet (w : World) : Obj := { cls := .type "set", dict := none, data := .set #[] 0 (.fresh 0 0 (!w.params.followText "set-order")) }
theorem call_set_lstI {l : Addr} {its : Array Value} (ns : List Int) {Q : Value → Shared → Prop} (calm : A.handled = none) (isl : s.heap.IsList l its) (intsA : IntsAre its.toList ns) (few : ns.length + 1 < scanBound)
    (fin : ∀ (h' : Heap) (tk c : Nat), SetR w h' s.heap.objs.size (fun j => decide (j ∈ ns)) c → c ≤ ns.length → (∀ b o, s.heap.get? b = some o → h'.get? b = some o) → Q (.ref s.heap.objs.size) { s with heap := h', toks := tk }) :
    wpAny (model P w) A (call (.type "set") [.ref l]) Q E s := by
  have size : its.size = ns.length := by
    have q := IntsAre.length intsA
    rwa [Array.length_toList] at q
  obtain ⟨c, tl, k1⟩ := F.called_set.mro
  have k2 := F.called_set.made
  have k3 := F.called_set.sub
  refine wpAny_call (codeAny_of_tree ?_)
  show wpAny _ _ (callAny (.type "set") _) _ _ _
  refine wpAny_pure ⟨Code.quiet_builtin _ (by decide +kernel), codeAny_builtin F.entry_type_call ?_⟩
  rw [Around.under_plain (weight_type_call_type "set" [.ref l] []) rfl]
  have k4 := F.called_set.notType
  have k5 := F.called_set.canCreate
  have k6 := F.typeCall_set_1 (.ref l)
  repeat (any_goals (first | assumption | wp_step))
  refine codeAny_mono (code_set_led1 (.ref l) (E := E) (Q₁ := fun obj z => obj = .ref s.heap.objs.size ∧ z = { s with heap := s.heap.push (newSet w) }) ⟨rfl, rfl⟩) fun r z hr => ?_
  cases r with
  | error e => exact hr
  | ok fl =>
    cases fl with
    | ret obj =>
      obtain ⟨rfl, rfl⟩ := hr
      have there : (s.heap.push (newSet w)).get? s.heap.objs.size = some (newSet w) := Heap.get?_push_size _ rfl
      have ty : Shared.TypeIs { s with heap := s.heap.push (newSet w) } (.ref s.heap.objs.size) "set" := ⟨_, there, rfl⟩
      have k7 := F.called_set.init.lookup
      have k8 := F.called_set.init.bind (.ref s.heap.objs.size)
      repeat (any_goals (first | assumption | wp_step))
      refine codeAny_mono (codeAny_call_builtin (R := wants (fun r z => r = .none ∧ ∃ h' tk c, z = { s with heap := h', toks := tk } ∧ SetR w h' s.heap.objs.size (fun j => decide (j ∈ ns)) c ∧ c ≤ ns.length ∧ (∀ b o, s.heap.get? b = some o → h'.get? b = some o)) E) F.called_set.init.plain F.entry_set_init (check_set_init_1 ty ?_)) fun r₂ z hr₂ => ?_
      · obtain ⟨⟨oc, od, oda, osl⟩, at0, e1, nl, e2⟩ := isl
        simp only at e1 e2
        subst e1; subst e2
        have at1 : (s.heap.push (newSet w)).get? l = some { cls := .type "list", dict := od, data := .seq its nl, slots := osl } := Heap.get?_push_of_some _ at0
        have m1 := F.sub_list_set
        have m2 := F.sub_list_frozenset
        have m3 : (Value.type "list" == Value.type "dict") = false := by decide
        have m4 : (s.heap.push (newSet w)).IsList l its := ⟨_, at1, rfl, nl, rfl⟩
        unfold Builtin.«set.__init__» noKeywords Builtin.Frozenset.updateFrom
        generalize hPI : pyIter = PI
        wp_walk
        subst hPI
        refine wpAny_pyIter_list m4 ?_
        refine wpAny_bind (wpAny_runValue ?_)
        have lt : l < s.heap.objs.size := Heap.lt_size at0
        have calm3 : A.in1.in1.in1.handled = none := by simp [calm]
        have ne1 : l ≠ (s.heap.push (newSet w)).objs.size := by
          rw [Heap.size_push]
          exact Nat.ne_of_lt (Nat.lt_succ_of_lt lt)
        have ne2 : s.heap.objs.size ∉ [(s.heap.push (newSet w)).objs.size, l] := by
          rw [Heap.size_push]
          intro hm
          rcases List.mem_cons.mp hm with hm | hm
          · exact Nat.ne_of_lt (Nat.lt_succ_self _) hm
          · exact Nat.ne_of_gt lt (List.mem_singleton.mp hm)
        have vals : ∀ (i : Nat) (v : Value), its[i]? = some v → ∃ k t, ns[i]? = some k ∧ v = .int k t := fun i v hv => by
          have hi : i < ns.length := by rw [← size]; exact (Array.getElem?_eq_some_iff.mp hv).1
          obtain ⟨t, e⟩ := IntsAre.int_at intsA i v (by rw [Array.getElem?_toList]; exact hv)
          refine ⟨ns[i], t, List.getElem?_eq_getElem hi, ?_⟩
          rw [e, List.getD_eq_getElem?_getD, List.getElem?_eq_getElem hi] <;> rfl
        refine set_update_ints ((Walks.list calm3 _ l ne1 its).toS) s.heap.objs.size ne2 ns size few vals (its.size - 0) 0 _ (by omega) (Nat.zero_le _) ⟨⟨_, Heap.get?_push_size _ rfl, rfl, rfl⟩, (m4.push _)⟩ ?g1 ?g2
        case g1 =>
          have at2 : ((s.heap.push (newSet w)).push { cls := .type "list_iterator", data := .fields #[.ref l, .int 0 0] }).get? s.heap.objs.size = some (newSet w) := Heap.get?_push_of_some _ there
          exact ⟨0, Nat.le_refl 0, setR_new_at at2⟩
        case g2 =>
          intro z c2 mv lc sr
          obtain ⟨h2, gn, dr, tk2, os2⟩ := z
          have e1 : gn = s.gens := mv.gens
          have e2 : dr = s.drawn := mv.drawn
          have e3 : os2 = s.os := mv.os
          subst e1; subst e2; subst e3
          show wpAny _ _ _ _ _ _
          refine wpAny_pure ?_
          show wpAny _ _ (ret Value.none) _ _ _
          rw [size] at lc
          refine wpAny_pure ⟨rfl, h2, tk2, c2, rfl, sr, lc, fun b o e => ?_⟩
          have l0 : b < s.heap.objs.size := Heap.lt_size e
          refine mv.heap b o (fun hm => ?_) (Heap.get?_push_of_some _ (Heap.get?_push_of_some _ e))
          rcases List.mem_cons.mp hm with hm | hm
          · exact Nat.ne_of_lt l0 hm
          · have e9 := List.mem_singleton.mp hm
            rw [Heap.size_push] at e9
            exact Nat.ne_of_lt (Nat.lt_succ_of_lt l0) e9
      · cases r₂ with
        | error e => exact hr₂
        | ok fl₂ =>
          cases fl₂ with
          | ret r =>
            obtain ⟨rfl, h', tk, c', rfl, sr, lc, kp⟩ := hr₂
            repeat (any_goals (first | assumption | wp_step))
            exact fin _ _ _ sr lc kp
          | _ => exact hr₂.elim
    | _ => exact hr.elim
/-- sorted(x), x a set of whole numbers -/
theorem sorted_setA {a : Addr} {S : Int → Bool} {n : Nat} {Q : Value → Shared → Prop} (R : SetR w s.heap a S n) (calm : A.handled = none)
    (fin : ∀ z p (out : List Value) (c : Nat) (ns : List Int), (∀ b o, s.heap.get? b = some o → z.heap.get? b = some o) → z.gens = s.gens → z.os = s.os → s.heap.objs.size ≤ p →
      z.heap.get? p = some (seqObj "list" out.toArray c) → IntsAre out ns → ns.Pairwise (· < ·) → (∀ k, k ∈ ns ↔ S k = true) → ns.length ≤ sizeLine ∧ ns.length = n → Q (.ref p) z) :
    wpAny (model P w) A (call (.builtin "sorted") [.ref a]) Q E s := by
  obtain ⟨o, es, ep, t, ho, hex, hd, g, nd, hm, hb, hf, hn, hr, hl⟩ := R
  refine Calls.call_function_entry kind_sorted plain_sorted entry_sorted (args_sorted1 _) ?_
  unfold Builtin.«sorted»
  refine wpAny_bind (m := checkCount "sorted" 1 1 _) (wpAny_pure ?_)
  refine wpAny_bind (collect_set (A := A.in1) calm ⟨o, ho, hex.1, hd⟩ hf hb hr hl fun z1 vs keep zl g1 o1 pm => ?_)
  have vn : vs.length = n := by rw [pm.length_eq, List.length_map, Array.length_toList]; exact hn
  have iv : IntsAre vs (vs.map Builtin.Re.reRawOf) := ints_of vs fun v hv => by
    obtain ⟨e, he, q⟩ := List.mem_map.mp (pm.mem_iff.mp hv)
    obtain ⟨k, tk, h1, _⟩ := g e he
    exact ⟨k, tk, by rw [← q]; exact h1⟩
  have pk : (vs.map Builtin.Re.reRawOf).Perm (es.toList.map keyOf) := by
    have := pm.map Builtin.Re.reRawOf
    rwa [List.map_map] at this
  have lz : vs.length ≤ sizeLine := by
    rw [vn, sizeLine_eq, ← hn]
    unfold scanBound at hb
    omega
  refine wpAny_bind (wpAny_newList ?_ lz)
  have at1 : (z1.heap.push (seqObj "list" vs.toArray 0)).get? z1.heap.objs.size = some (seqObj "list" vs.toArray 0) := Heap.get?_push_size _ rfl
  refine wpAny_bind (wpAny_holding (wpAny_call_entry slot_list_sort ⟨_, at1, rfl⟩ entry_list_sort (SrtO.list_sort_ord SrtO.swo_int at1 lz (fun h2 => SrtO.ints_sortable iv h2) fun out q1 q2 => ⟨_, rfl, ?_⟩) (args_list_sort _)))
  obtain ⟨k1, k2, k3⟩ := SrtO.ints_out iv q1 q2
  obtain ⟨c, at2⟩ := sortedHeap_at (vs := vs) (out := out.toArray) at1
  have pn : (out.map SrtO.iv).Perm (es.toList.map keyOf) := k2.trans pk
  refine wpAny_pure ⟨_, rfl, fin _ z1.heap.objs.size out c (out.map SrtO.iv) (fun b u e => ?_) g1 o1 zl at2 k1 (lt_of_le_nodup _ k3 (pn.nodup_iff.mpr nd)) (fun k => by rw [pn.mem_iff, ← hm k]) ?_⟩
  · have q := keep b u e
    have lt := Heap.lt_size q
    show (sortedHeap (z1.heap.push (seqObj "list" vs.toArray 0)) z1.heap.objs.size vs out.toArray).get? b = some u
    rw [sortedHeap_old (Nat.ne_of_lt lt) (by rw [size_push']; exact Nat.lt_succ_of_lt lt)]
    exact Heap.get?_push_of_some _ q
  · rw [pn.length_eq, ← pk.length_eq, List.length_map]
    exact ⟨lz, vn⟩
end
section
variable {X : Cx}
/-- set(xs) -/
def rSetI (w : World) (K : PySem.W.Frag) : List V → Hp → VK → Prop := fun xs H Q => ∃ (a : Addr) (ns : List Int), xs = [.ref a] ∧ (SqL K H a (ns.map V.int) ∨ SqT K H a (ns.map V.int)) ∧ ns.length ≤ 4000 ∧ ∀ p n, H p = none → n ≤ ns.length → Q (.ref p) (upd H p (SetO w p (fun j => decide (j ∈ ns)) n))
theorem cr_setI (K : PySem.W.Frag) (cm : X.calm = true) (hK : X.K = K := by rfl) : CallR X (.type "set") (rSetI X.w K) := by
  subst hK
  intro pins s σ H xs us Q I r h
  obtain ⟨a, ns, rfl, hs, few, q⟩ := h
  rw [Vals.ref1 r]
  have done : ∀ (h' : Heap) (tk c : Nat), SetR X.w h' s.heap.objs.size (fun j => decide (j ∈ ns)) c → c ≤ ns.length → (∀ b o, s.heap.get? b = some o → h'.get? b = some o) → EP X pins σ Q (.ref s.heap.objs.size) { s with heap := h', toks := tk } := fun h' tk c R lc keep =>
    ⟨.ref _, upd H s.heap.objs.size (SetO X.w s.heap.objs.size (fun j => decide (j ∈ ns)) c), I.laid (t' := tk) keep (Nat.le_refl _) (setO_new R), rfl, q _ c (I.hok.fresh (Nat.le_refl _)) lc⟩
  have sb : ns.length + 1 < scanBound := by unfold scanBound; omega
  rcases hs with hs | hs
  · obtain ⟨its, rv, pl, hz⟩ := I.list hs
    exact call_set_lstI ns (I.ok.hd cm) pl.isList (by simpa using ints_of_vals rv) sb done
  · obtain ⟨its, rv, pl, hz⟩ := I.tuple hs
    exact call_set_tupI ns (I.ok.hd cm) (show s.heap.IsTuple a its.toArray from pl) (by simpa using ints_of_vals rv) sb done
def rSortedS (w : World) : List V → Hp → VK → Prop := fun vs H Q => ∃ (a : Addr) (S : Int → Bool) (n : Nat), vs = [V.ref a] ∧ H a = some (SetO w a S n) ∧
  ∀ (ns : List Int) (p : Addr), ns.Pairwise (· < ·) → (∀ k : Int, k ∈ ns ↔ S k = true) → ns.length = n → H p = none → Q (.ref p) (upd H p (.lst (ns.map V.int)))
theorem cr_sortedSA (cm : X.calm = true) : CallR X (.builtin "sorted") (rSortedS X.w) := by
  intro pins s σ H vs us Q I r h
  obtain ⟨a, S, n, rfl, ha, q⟩ := h
  have R := setO_get I ha
  rw [Vals.ref1 r]
  refine sorted_setA R (I.ok.hd cm) fun z p out c ns keep g o hp hg hi hs hm hl => ?_
  have ln : (ns.map V.int).length ≤ sizeLine := by rw [List.length_map]; exact hl.1
  have hn : H p = none := I.hok.fresh hp
  have J : Inv X pins σ (upd H p (.lst (ns.map V.int))) { s with heap := z.heap, gens := z.gens, drawn := z.drawn, toks := z.toks } :=
    I.call (ch := []) (Un.laid keep hp hn) (I.hok.laid keep hp ⟨ln, out, c, vals_of_ints hi, hg⟩) (by rw [g]; exact I.bare) (fun _ z => nomatch z)
  have e : z = { s with heap := z.heap, gens := z.gens, drawn := z.drawn, toks := z.toks } := by
    cases z; cases s; cases o; rfl
  rw [e]
  exact ⟨.ref p, _, J, rfl, q ns p hs hm hl.2 hn⟩
end
end L3
set_option Elab.async false
set_option linter.all false
set_option maxRecDepth 100000
set_option maxHeartbeats 4000000
/-! ### ranges of whole numbers of any size -/
namespace LR
open PySem PySem.Builtin.Range
theorem own_l : Manifest.owners.lookup (String.ofList ['r', 'o', 't', 'a', 'r', 'e', 't', 'i', '_', 'e', 'g', 'n', 'a', 'r', 'g', 'n', 'o', 'l'].reverse) = some Manifest.sig_longrange_iterator := by kernel_rfl
theorem slot_l_next : Slot "longrange_iterator" "__next__" "longrange_iterator.__next__" :=
  .of (owner := "longrange_iterator") (n := "__next__") (by rw [typeLookup_type, builtinLookup_eq_fast]; kernel_rfl) (by decide +kernel) (by decide +kernel) (by decide +kernel) (by first | exact .inl (by decide +kernel) | exact .inr (by decide +kernel)) (by rw [isSubtype_type]; kernel_rfl)
theorem slot_l_iter : Slot "longrange_iterator" "__iter__" "longrange_iterator.__iter__" :=
  .of (owner := "longrange_iterator") (n := "__iter__") (by rw [typeLookup_type, builtinLookup_eq_fast]; kernel_rfl) (by decide +kernel) (by decide +kernel) (by decide +kernel) (by first | exact .inl (by decide +kernel) | exact .inr (by decide +kernel)) (by rw [isSubtype_type]; kernel_rfl)
theorem entry_l_next : entryFor table "longrange_iterator.__next__" = some Builtin.«longrange_iterator.__next__» := entryFor_of_tree (by kernel_rfl)
theorem entry_l_iter : entryFor table "longrange_iterator.__iter__" = some Builtin.«dict_keyiterator.__iter__» :=
  entryFor_alias (id' := "dict_keyiterator.__iter__") (by kernel_rfl) (by first | rfl | decide +kernel | (unfold String.splitOn; simp +decide [String.splitOnAux])) (by decide +kernel) (by kernel_rfl)
theorem args_l_next (a : Value) : argsOk "longrange_iterator.__next__" ⟨[a], []⟩ := by
  unfold argsOk
  rw [signature?_of (id := "longrange_iterator.__next__") (n := ['_', '_', 't', 'x', 'e', 'n', '_', '_']) (o := ['r', 'o', 't', 'a', 'r', 'e', 't', 'i', '_', 'e', 'g', 'n', 'a', 'r', 'g', 'n', 'o', 'l']) (by kernel_rfl) own_l]
  kernel_rfl
theorem args_l_iter (a : Value) : argsOk "longrange_iterator.__iter__" ⟨[a], []⟩ := by
  unfold argsOk
  rw [signature?_of (id := "longrange_iterator.__iter__") (n := ['_', '_', 'r', 'e', 't', 'i', '_', '_']) (o := ['r', 'o', 't', 'a', 'r', 'e', 't', 'i', '_', 'e', 'g', 'n', 'a', 'r', 'g', 'n', 'o', 'l']) (by kernel_rfl) own_l]
  kernel_rfl
def rin (b : Bool) : String := if b then "range_iterator" else "longrange_iterator"
/-- a range's iterator, short or long -/
def IsRI (b : Bool) (h : Heap) (it : Addr) (x left step : Int) : Prop := h.get? it = some { cls := .type (rin b), dict := none, data := .fields #[rawInt x, rawInt left, rawInt step], slots := #[] }
section
variable {prog : Program} {w : World} {A : Around} {E : Value → Shared → Prop} {s : Shared}
theorem iter_any {r : Addr} {a b c : Int} {t u v : Tok} {Q : Value → Shared → Prop} (hr : IsRange s.heap r a b c t u v)
    (q : Q (.ref s.heap.objs.size) { s with heap := s.heap.push { cls := .type (rin (small a b c)), data := .fields #[rawInt a, rawInt (rangeSize a b c), rawInt c] } }) :
    wpAny (model prog w) A (pyIter (.ref r)) Q E s := by
  cases e : small a b c with
  | true =>
    rw [e] at q
    exact wpAny_pyIter_range hr e q
  | false =>
    rw [e] at q
    have ty : s.TypeIs (.ref r) "range" := ⟨_, hr, rfl⟩
    unfold small at e
    refine wpAny_pyIter_slot ty F.slot_range_iter (call_meets F.slot_range_iter ty F.entry_range_iter (F.args_range_iter_1 _) (AutoRange.range___iter___range_0 r a b c t u v (by simp [e])) ⟨hr, ?_⟩)
    simp only [e]
    exact ⟨"longrange_iterator", _, ⟨_, Heap.get?_push_size _ rfl, rfl⟩, slot_l_next.lookup, q⟩
theorem next_l (it : Addr) (x left step : Int) (more : ¬left ≤ 0) :
    Meets (Builtin.«longrange_iterator.__next__» ⟨[.ref it], []⟩) (fun _ R s => IsRI false s.heap it x left step ∧ R (.ok (.ret (Value.int x s.toks))) { s with heap := (s.heap.update it (Obj.mapFields fun y => y.setIfInBounds 0 (rawInt (x + step)))).update it (Obj.mapFields fun y => y.setIfInBounds 1 (rawInt (left - 1))), toks := s.toks + 1 }) :=
  .of_wp fun prog w A R s h => by
    obtain ⟨hp, g, d, tk, os⟩ := s
    obtain ⟨at0, h⟩ := h
    have at1 : hp.get? it = some { cls := .type "longrange_iterator", dict := none, data := .fields #[rawInt x, rawInt left, rawInt step], slots := #[] } := at0
    clear at0
    wp_walk
    exact ⟨_, rfl, h⟩
theorem item_any {bb : Bool} {it : Addr} {x left step : Int} {Q : Option Value → Shared → Prop} (hit : IsRI bb s.heap it x left step) (more : 0 < left)
    (q : ∀ h', IsRI bb h' it (x + step) (left - 1) step → Heap.SameBut it s.heap h' → Q (some (.int x s.toks)) { s with heap := h', toks := s.toks + 1 }) :
    wpAny (model prog w) A (pyNext (.ref it)) Q E s := by
  cases bb with
  | true => exact wpAny_pyNext_range_item hit more q
  | false =>
    have ty : s.TypeIs (.ref it) "longrange_iterator" := ⟨_, hit, rfl⟩
    unfold pyNext
    refine wpAny_bind (wpAny_attempt (wpAny_callSpecial?_slot (name := Str.ofString "__next__") ty slot_l_next (call_meets slot_l_next ty entry_l_next (args_l_next _) (next_l it x left step (by omega)) ⟨hit, ?_⟩)))
    exact wpAny_pure (q _ (Heap.get?_update_self _ (Heap.get?_update_self _ hit rfl) rfl) ((Heap.SameBut.update ..).trans (Heap.SameBut.update ..)))
theorem end_any {bb : Bool} {it : Addr} {x left step : Int} {Q : Option Value → Shared → Prop} (calm : A.handled = none) (hit : IsRI bb s.heap it x left step) (none_ : left ≤ 0)
    (q : ∀ h', Heap.ExtBut it s.heap h' → Q none { s with heap := h' }) : wpAny (model prog w) A (pyNext (.ref it)) Q E s := by
  cases bb with
  | true => exact wpAny_pyNext_range_end calm hit none_ q
  | false =>
    have ty : s.TypeIs (.ref it) "longrange_iterator" := ⟨_, hit, rfl⟩
    unfold pyNext
    refine wpAny_bind (wpAny_attempt (wpAny_callSpecial?_slot (name := Str.ofString "__next__") ty slot_l_next (wpAny_call_entry slot_l_next ty entry_l_next ?_ (args_l_next _))))
    have f0 : s.heap.get? it = some { cls := .type "longrange_iterator", dict := none, data := .fields #[rawInt x, rawInt left, rawInt step], slots := #[] } := hit
    unfold Builtin.«longrange_iterator.__next__»
    obtain ⟨hp, g, d, tk, os⟩ := s
    wp_walk
    simp only [raiseNew]
    refine wpAny_bind (wpAny_handled ?_)
    first | rw [show A.in1.handled = none from calm] | rw [calm]
    refine wpAny_bind (wpAny_pure (wpAny_throw ?_))
    refine wpAny_bind (wpAny_isInstance (T := "StopIteration") (b := true) ⟨_, Heap.get?_push_size _ rfl, rfl⟩ isSubtype_stop ?_)
    exact wpAny_pure (q _ (((Heap.ExtBut.refl it hp).push _).push _))
theorem self_any {bb : Bool} {it : Addr} {x left step : Int} {Q : Value → Shared → Prop} (hit : IsRI bb s.heap it x left step) (h : Q (.ref it) s) : wpAny (model prog w) A (pyIter (.ref it)) Q E s := by
  cases bb with
  | true => exact wpAny_pyIter_rangeiter hit h
  | false =>
    have ty : s.TypeIs (.ref it) "longrange_iterator" := ⟨_, hit, rfl⟩
    refine wpAny_pyIter_slot ty slot_l_iter (wpAny_call_entry slot_l_iter ty entry_l_iter ?_ (args_l_iter _))
    show wpAny _ _ (ret (.ref it)) _ _ s
    exact wpAny_pure ⟨_, rfl, "longrange_iterator", _, ty, slot_l_next.lookup, h⟩
end
theorem walks_any {prog : Program} {w : World} {A : Around} (calm : A.handled = none) (bb : Bool) (I : Addr) (a c : Int) (n : Nat) :
    Walks prog w A I [I] [I] n (fun i v => ∃ t, v = .int (a + i * c) t) (fun i h => IsRI bb h I (a + (i : Nat) * c) ((n : Int) - (i : Nat)) c) where
  sub := fun _ hb => hb
  frame := fun _ _ _ st hk => hk I (by simp) _ st
  item := fun i s Q E hi st q => by
    refine item_any st (by omega) fun h1 it1 sb => ?_
    refine q _ h1 _ ⟨_, rfl⟩ ?_ fun b o hb e => sb.extBut b o (fun h => hb (by simp [h])) e
    have e1 : a + ((i + 1 : Nat) : Int) * c = a + (i : Int) * c + c := by
      rw [Int.natCast_add, Int.add_mul, Int.add_assoc]
      simp
    have e2 : (n : Int) - ((i + 1 : Nat) : Int) = (n : Int) - (i : Int) - 1 := by omega
    rw [e1, e2]
    exact it1
  done := fun s Q E st q => end_any calm st (by omega) fun h1 ex => q h1 s.toks fun b o hb e => ex b o (fun h => hb (by simp [h])) e
  self := fun _ _ _ _ st q => self_any st q
section
variable {prog : Program} {w : World} {A : Around} {E : Value → Shared → Prop} {s : Shared}
theorem extend_any {R : Result → Shared → Prop} {r : Addr} {a b c : Int} {t u v : Tok} {n : Nat} (calm : A.handled = none) (hr : IsRange s.heap r a b c t u v)
    (hn : rangeSize a b c = n) (few : n ≤ 2 ^ 24) (S : Addr) (res : Value) (c₀ : Nat) (at0 : s.heap.get? S = some { cls := .type "list", data := .seq #[] c₀ })
    (fin : ∀ h1 tk acc c1, (∀ b o, b ≠ S → s.heap.get? b = some o → h1.get? b = some o) → h1.get? S = some { cls := .type "list", dict := none, data := .seq acc c1, slots := #[] } → ItemsOf (fun i v => ∃ t, v = .int (a + i * c) t) acc n → R (.ok (.ret res)) { s with heap := h1, toks := tk }) :
    wpAny (model prog w) A.in1 (Builtin.List.listExtendWith (.ref S) (.ref r) res) (fun fin s' => match fin with | .done f => R (.ok f) s' | .again c' => c'.quiet = true ∧ codeAny (model prog w) A c' R s') (fun e s' => R (.error e) s') s := by
  have ne1 : S ≠ r := fun e => by rw [e, hr] at at0; simp at at0
  have lt1 : S < s.heap.objs.size := Heap.lt_size at0
  have ne2 : S ≠ s.heap.objs.size := Nat.ne_of_lt lt1
  have nf : S ∉ [s.heap.objs.size] := fun hm => ne2 (List.mem_singleton.mp hm)
  have W := (walks_any (prog := prog) (w := w) (A := A.in1) calm (small a b c) s.heap.objs.size a c n).toS
  have key : ∀ (h : Heap) (c₁ tk : Nat), IsRI (small a b c) h s.heap.objs.size (a + ((0 : Nat) : Int) * c) ((n : Int) - ((0 : Nat) : Int)) c → (∀ b o, b ≠ S → s.heap.get? b = some o → h.get? b = some o) →
      h.get? S = some { cls := .type "list", data := .seq #[] c₁ } → codeAny (model prog w) A (.builtin "list.extend.loop" ⟨[.ref S, .ref s.heap.objs.size, res], []⟩) R { s with heap := h, toks := tk } := by
    intro h c₁ tk hit hk at1
    refine codeAny_extend_loopS W (by rw [sizeLine_eq]; omega) S nf res n 0 _ #[] c₁ rfl (Nat.zero_le _) hit at1 (ItemsOf.nil _) fun z acc c1 hm at2 items => ?_
    rw [Moved.eq_with hm]
    refine fin z.heap z.toks acc c1 (fun b o hb e => hm.heap b o (fun hmem => ?_) (hk b o hb e)) at2 items
    rcases List.mem_cons.mp hmem with e' | hmem
    · exact hb e'
    · have lt := Heap.lt_size e
      rw [List.mem_singleton.mp hmem] at lt
      exact Nat.lt_irrefl _ lt
  unfold Builtin.List.listExtendWith
  refine wpAny_bind (wpAny_typeOf (T := "range") ⟨_, hr, rfl⟩ ?_)
  have k1 : Builtin.List.listSameRef (.ref S) (.ref r) = false := by simp [Builtin.List.listSameRef, ne1]
  have k2 : (Value.type "range" == Value.type "list") = false := by decide
  have k3 : (Value.type "range" == Value.type "tuple") = false := by decide
  simp only [k1, k2, k3, Bool.or_false, Bool.false_eq_true, if_false]
  refine wpAny_bind (iter_any hr ?_)
  refine wpAny_bind (wpAny_holding (wpAny_hint_range (n := n) (Heap.get?_push_of_some _ hr) hn few ?_))
  have it1 : IsRI (small a b c) (s.heap.push { cls := .type (rin (small a b c)), data := .fields #[rawInt a, rawInt (rangeSize a b c), rawInt c] }) s.heap.objs.size (a + ((0 : Nat) : Int) * c) ((n : Int) - ((0 : Nat) : Int)) c := by
    rw [hn]
    have e := Heap.get?_push_size s.heap (o := { cls := .type (rin (small a b c)), data := .fields #[rawInt a, rawInt (n : Int), rawInt c] }) rfl
    unfold IsRI
    simpa using e
  have at1 := Heap.get?_push_of_some { cls := .type (rin (small a b c)), data := .fields #[rawInt a, rawInt (rangeSize a b c), rawInt c] } at0
  refine wpAny_ite_split (fun _ => ?_) (fun _ => wpAny_pure ⟨plainId_quiet F.plain_extend_loop _, key _ c₀ _ it1 (fun b o _ e => Heap.get?_push_of_some _ e) at1⟩)
  refine wpAny_bind (wpAny_rule ?_)
  refine wpAny_bind ?_
  show wpAny _ _ (updateSeq S (·.push .none) >>= fun _ => updateSeq S (·.pop)) _ _ _
  refine wpAny_bind (wpAny_updateSeq at1 rfl ?_)
  have at2 := Heap.get?_update_self (Obj.mapSeq (·.push Value.none)) at1 rfl
  refine wpAny_updateSeq (hz := by seq_fits) at2 rfl ?_
  have at3 := Heap.get?_update_self (Obj.mapSeq (·.pop)) at2 rfl
  refine wpAny_pure ⟨plainId_quiet F.plain_extend_loop _, key _ _ _ ?_ (fun b o hb e => ?_) at3⟩
  · exact (Heap.get?_update_other _ _ ne2).trans ((Heap.get?_update_other _ _ ne2).trans it1)
  · exact (Heap.get?_update_other _ _ (Ne.symm hb)).trans ((Heap.get?_update_other _ _ (Ne.symm hb)).trans (Heap.get?_push_of_some _ e))
theorem init_any {R : Result → Shared → Prop} {r : Addr} {a b c : Int} {t u v : Tok} {n : Nat} (calm : A.handled = none) (hr : IsRange s.heap r a b c t u v)
    (hn : rangeSize a b c = n) (few : n ≤ 2 ^ 24) (S : Addr) (at0 : s.heap.get? S = some { cls := .type "list", data := .seq #[] })
    (fin : ∀ h1 tk acc c1, (∀ b o, b ≠ S → s.heap.get? b = some o → h1.get? b = some o) → h1.get? S = some { cls := .type "list", dict := none, data := .seq acc c1, slots := #[] } → ItemsOf (fun i v => ∃ t, v = .int (a + i * c) t) acc n → R (.ok (.ret .none)) { s with heap := h1, toks := tk }) :
    wpAny (model prog w) A.in1 (Builtin.«list.__init__» ⟨[.ref S, .ref r], []⟩) (fun fin s' => match fin with | .done f => R (.ok f) s' | .again c' => c'.quiet = true ∧ codeAny (model prog w) A c' R s') (fun e s' => R (.error e) s') s := by
  have ne1 : S ≠ r := fun e => by rw [e, hr] at at0; simp at at0
  show wpAny _ _ (do let old ← Builtin.List.listItems (.ref S); Builtin.List.listUpdate (.ref S) (fun _ => #[]); letGo old.toList.reverse; Builtin.List.listExtendWith (.ref S) (.ref r) .none) _ _ s
  refine wpAny_bind ?_
  unfold Builtin.List.listItems
  refine wpAny_bind (wpAny_seqItems at0 rfl (wpAny_pure ?_))
  show wpAny _ _ (updateSeq S (fun _ => #[]) >>= fun _ => letGo (#[] : Array Value).toList.reverse >>= fun _ => Builtin.List.listExtendWith (.ref S) (.ref r) .none) _ _ s
  refine wpAny_bind (wpAny_updateSeq at0 rfl ?_)
  have at1 := Heap.get?_update_self (Obj.mapSeq (fun _ => (#[] : Array Value))) at0 rfl
  have oth : ∀ b o, b ≠ S → s.heap.get? b = some o → (s.heap.update S (Obj.mapSeq (fun _ => (#[] : Array Value)))).get? b = some o := fun b o hb e => (Heap.get?_update_other _ _ (Ne.symm hb)).trans e
  refine wpAny_bind (wpAny_letGo ?_)
  refine extend_any calm (oth r _ (Ne.symm ne1) hr) hn few S .none _ at1 fun h1 tk acc c1 hk at2 items => ?_
  exact fin h1 tk acc c1 (fun b o hb e => hk b o hb (oth b o hb e)) at2 items
theorem list_any {Q : Value → Shared → Prop} {r : Addr} {a b c : Int} {t u v : Tok} {n : Nat} (calm : A.handled = none) (hr : IsRange s.heap r a b c t u v) (hn : rangeSize a b c = n) (few : n ≤ 2 ^ 24)
    (fin : ∀ h1 tk acc c1, (∀ b o, s.heap.get? b = some o → h1.get? b = some o) → h1.get? s.heap.objs.size = some { cls := .type "list", dict := none, data := .seq acc c1, slots := #[] } → ItemsOf (fun i v => ∃ t, v = .int (a + i * c) t) acc n → Q (.ref s.heap.objs.size) { s with heap := h1, toks := tk }) :
    wpAny (model prog w) A (call (.type "list") [.ref r]) Q E s := by
  refine callType_codes (Q₁ := fun obj z => obj = .ref s.heap.objs.size ∧ z = { s with heap := s.heap.push { cls := .type "list", data := .seq #[] } }) F.called_list (F.typeCall_list_1 _) F.entry_list_init (code_list_new _ ⟨rfl, rfl⟩) fun obj z h₁ => ?_
  obtain ⟨rfl, rfl⟩ := h₁
  have at0 : (s.heap.push { cls := .type "list", data := .seq #[] }).get? s.heap.objs.size = some { cls := .type "list", data := .seq #[] } := Heap.get?_push_size _ rfl
  refine ⟨⟨_, at0, rfl⟩, F.args_list_init_2 _ _, init_any (A := A.in1) calm (Heap.get?_push_of_some _ hr) hn few _ at0 fun h1 tk acc c1 hk at1 items => ?_⟩
  exact ⟨rfl, fin h1 tk acc c1 (fun b o e => hk b o (Nat.ne_of_lt (Heap.lt_size e)) (Heap.get?_push_of_some _ e)) at1 items⟩
end
end LR
namespace L3
open PySem PySem.Spec PyProof.Rows L2
theorem turn_rangeB {P : Program} {w : World} {K : PySem.W.Frag} {tg : Expr} (bb : Bool) (it : Addr) (lo : Int) (n : Nat) : L2.Turn P w K tg (Itr lo n) [it] it (fun i h => LR.IsRI bb h it (lo + (i : Nat) * 1) ((n : Int) - (i : Nat)) 1) where
  mem := by simp
  obj := fun i h st b hb => by
    obtain rfl : b = it := by simpa using hb
    exact ⟨_, st, fun v z => nomatch (show Data.fields _ = Data.cell v from z)⟩
  keep := fun i h h' st k => k it (by simp) _ st
  item := by
    intro X hP hw hK hc i pins s σ H E I hf st hg
    subst hP hw hK
    obtain ⟨f0, f1, f2, f3, f4, f5⟩ := hf it (by simp)
    refine (LR.walks_any (prog := X.prog) (w := X.w) (I.ok.hd hc) bb it lo 1 n).item i s _ _ hg st fun v h1 tk hv st1 kk => ?_
    obtain ⟨t, rfl⟩ := hv
    have J : Inv X pins σ H { s with heap := h1, toks := tk } := I.turned (fun b o hb e => kk b o (by simpa using hb) e) f0 f1 f3 f4 f5
    refine ⟨_, rfl, go_of (s := { s with heap := h1, toks := tk }) (n := LR.rin bb) st1 rfl rfl (by cases bb <;> decide) ⟨.int (lo + i), H, J, ⟨t, ?_⟩, ⟨rfl, rfl⟩, st1, fun b hb => (hf b hb).1⟩⟩
    rw [Int.mul_one]
  done := by
    intro X hP hw hK hc i pins s σ H E I hf st hg
    subst hP hw hK
    obtain ⟨f0, f1, f2, f3, f4, f5⟩ := hf it (by simp)
    exact LR.end_any (I.ok.hd hc) st (by have : n ≤ i := hg; omega) fun h1 eb => ⟨rfl, I.turned (t' := s.toks) (fun b o hb e => eb b o hb e) f0 f1 f3 f4 f5⟩
  self := fun _ _ _ _ _ st h => LR.self_any st h
section
variable {X : Cx} {tg : Expr}
theorem range_itB {pins : List (Addr × Obj)} {σ : L2.St} {H : Hp} {s : Shared} {R : It → Hp → Prop} {E : Value → Shared → Prop} {lo hi : Int} {t u v : Tok} {tk : Nat} (I : Inv X pins σ H s) (q : R (Itr lo (hi - lo).toNat) H) :
    wpAny (model X.prog X.w) X.A (pyIter (.ref s.heap.objs.size)) (PIE X pins σ tg R) E { s with heap := s.heap.push { cls := .type "range", data := .fields #[.int lo t, .int hi u, .int 1 v] }, toks := tk } := by
  refine LR.iter_any (IsRange.new ..) ?_
  have J : Inv X pins σ H { s with heap := s.heap.push { cls := .type "range", data := .fields #[.int lo t, .int hi u, .int 1 v] }, toks := tk } := I.kept fun b o e => Heap.get?_push_of_some _ e
  refine ⟨_, [_], _, _, H, rfl, J.kept (t' := tk) fun b o e => Heap.get?_push_of_some _ e, turn_rangeB (Builtin.Range.small lo hi 1) _ lo (hi - lo).toNat, ?_, fun b hb => ?_, q⟩
  · have e1 : lo + ((0 : Nat) : Int) * 1 = lo := by simp
    have e2 : (((hi - lo).toNat : Nat) : Int) - ((0 : Nat) : Int) = Builtin.Range.rangeSize lo hi 1 := by rw [rangeSize_one]; split <;> omega
    show LR.IsRI _ _ _ (lo + ((0 : Nat) : Int) * 1) ((((hi - lo).toNat : Nat) : Int) - ((0 : Nat) : Int)) 1
    rw [e1, e2]
    exact Heap.get?_push_size _ rfl
  · obtain rfl := List.mem_singleton.mp hb
    exact J.fpOk (Nat.le_refl _) (J.hok.fresh (Nat.le_refl _))
/-- range(a, b), walked, whatever their size -/
def iRngB (ta : TA) : TI := fun σ H R => ta σ H fun vs H1 => ∃ i j : Int, vs = [.int i, .int j] ∧ R (Itr i (j - i).toNat) H1
theorem pi_rangeB {a b : Expr} {ta : TA} {p pos : Pos} (hg : Gl X "range") (hm : X.mg "range" = none) (ha : PA X [a, b] ta) (hs : starEach [a, b] X.env = [(false, eval a X.env), (false, eval b X.env)] := by rfl) (hs2 : starEach [b] X.env = [(false, eval b X.env)] := by rfl) :
    PI X tg (.Call (.Name "range" p) [a, b] [] pos) (iRngB ta) := by
  refine ⟨fun pins s σ H R I h => ?_⟩
  refine Call_ (ld_blt I hg hm boot_range (callWith_type1 (thn (ha.run pos pins s σ H _ I h) fun us s1 ⟨vs, H1, I1, r1, q1⟩ => ?_) (by rw [hs, hs2]) (by rw [hs2]; rfl)))
  obtain ⟨i, j, e, q⟩ := q1
  subst e
  obtain ⟨u1, u2, rfl, ⟨t, rfl⟩, ⟨t', rfl⟩⟩ := vals2 r1
  exact call_range_2 (range_itB I1 q)
/-- list(range(..)) -/
def tLstRB (te : L2.St → Hp → (Int → Int → Hp → Prop) → Prop) : TE := fun σ H Q => te σ H fun a b H1 => (b - a).toNat ≤ 2 ^ 24 ∧ ∀ q, H1 q = none → Q (.ref q) (upd H1 q (.lst (rgV a b)))
theorem pe_listRB {e : Expr} {te : L2.St → Hp → (Int → Int → Hp → Prop) → Prop} {p pos : Pos} (hc : X.calm = true) (hg : Gl X "list") (hm : X.mg "list" = none) (he : PRg X e te) (na : starEach [e] X.env = (false, eval e X.env) :: starEach [] X.env := by rfl) : PE X (.Call (.Name "list" p) [e] [] pos) (tLstRB te) := by
  refine ⟨fun pins s σ H Q I h => ?_⟩
  refine Call_ (ld_blt I hg hm boot_list (callWith_type1 (args_cons (thn (he pins s σ H _ I h) fun x s1 ⟨r, a, b, t, u, v, H1, ex, hr, I1, few, q⟩ => args_nil ?_) na) na))
  subst ex
  refine LR.list_any (n := (b - a).toNat) (I1.ok.hd hc) hr (rangeSize_nat a b) few fun h1 tk acc c1 hk e' hi => ?_
  refine ⟨.ref s1.heap.objs.size, upd H1 s1.heap.objs.size (.lst (rgV a b)), I1.laid hk (Nat.le_refl _) (show ObjOk X.prog X.w _ _ _ (.lst (rgV a b)) from ⟨?_, acc.toList, c1, vals_rg hi, ?_⟩), rfl, q _ (I1.hok.fresh (Nat.le_refl _))⟩
  · rw [rgV_length, sizeLine_eq]
    omega
  · rw [Array.toArray_toList]
    exact e'
end
end L3
set_option Elab.async false
set_option linter.all false
set_option maxRecDepth 100000
set_option maxHeartbeats 4000000
namespace L3
open PySem PySem.Spec PyProof.Rows L2
theorem range_fm {α β : Type} (g : α → Option β) : ∀ l : List α, (List.range l.length).filterMap (fun i => l[i]?.bind g) = l.filterMap g
  | [] => rfl
  | x :: l => by
    rw [List.length_cons, List.range_succ_eq_map, List.filterMap_cons, List.filterMap_map, List.filterMap_cons]
    have ih := range_fm g l
    have e : ((fun i => (x :: l)[i]?.bind g) ∘ Nat.succ) = fun i => l[i]?.bind g := funext fun i => by simp
    rw [e, ih]
    simp
section
variable {J : It} {G : Hp → Prop} {g : TG} {tt : TT} {te : TE} {vs : List Nat} {σ : L2.St} {H1 : Hp} {D : Addr} {Qd : Hp → Prop}
/-- a comprehension over xs (told as values by v), each of which gives gm x, or nothing -/
theorem lc_on {α : Type} (xs : List α) (v : α → V) (w : L2.Walk J (xs.map v).length G (L2.YAt (xs.map v))) (gm : α → Option V) (I : Hp → Prop) (hI : ∀ H l, I H → I (upd H D (.lst l))) (i0 : I H1) (hn : xs.length ≤ 100000) (hG : ∀ H, I H → G H)
    (hs : ∀ (i : Nat) (x : α) (H : Hp) (acc : List V) (N : Hp → Prop), xs[i]? = some x → I H → H D = some (.lst acc) → acc.length < sizeLine →
      (∀ H4, I H4 → H4 D = some (.lst acc) → match gm x with | some y => N (upd H4 D (.lst (acc ++ [y]))) | none => N H4) → Turn g tt te vs σ D (v x) H N)
    (hd : ∀ H, I H → H D = some (.lst (xs.filterMap gm)) → Qd H) :
    ∃ W : Nat → Nat → Hp → Prop, (∃ m, W 0 m (upd H1 D (.lst []))) ∧ ∀ i m H, W i m H →
      (J.stop i H ∧ Qd H) ∨ (J.go i H ∧ ∃ Nx : Hp → Prop, (∀ H', Nx H' → ∃ m', m' < m ∧ W (i + 1) m' H') ∧ ∀ x H', J.yld i H x H' → Turn g tt te vs σ D x H' Nx) := by
  refine lc_fm w (fun i => xs[i]?.bind gm) I hI i0 (by rw [List.length_map]; exact hn) hG (fun i x H H' acc N hi p hD la y k => ?_) fun H p hD => hd H p ?_
  · obtain ⟨rfl, hx⟩ := y
    rw [List.getElem?_map] at hx
    obtain ⟨z, hz, rfl⟩ := Option.map_eq_some_iff.mp hx
    refine hs i z _ acc N hz p hD la fun H4 p4 d4 => ?_
    have := k H4 p4 d4
    simp only [hz, Option.bind_some] at this
    exact this
  · rw [hD, List.length_map, range_fm]
/-- a comprehension over a range -/
theorem lc_rg {lo : Int} {n : Nat} (gm : Nat → Option V) (I : Hp → Prop) (hI : ∀ H l, I H → I (upd H D (.lst l))) (i0 : I H1) (hn : n ≤ 100000)
    (hs : ∀ (i : Nat) (H : Hp) (acc : List V) (N : Hp → Prop), i < n → I H → H D = some (.lst acc) → acc.length < sizeLine →
      (∀ H4, I H4 → H4 D = some (.lst acc) → match gm i with | some y => N (upd H4 D (.lst (acc ++ [y]))) | none => N H4) → Turn g tt te vs σ D (.int (lo + i)) H N)
    (hd : ∀ H, I H → H D = some (.lst ((List.range n).filterMap gm)) → Qd H) :
    ∃ W : Nat → Nat → Hp → Prop, (∃ m, W 0 m (upd H1 D (.lst []))) ∧ ∀ i m H, W i m H →
      ((Itr lo n).stop i H ∧ Qd H) ∨ ((Itr lo n).go i H ∧ ∃ Nx : Hp → Prop, (∀ H', Nx H' → ∃ m', m' < m ∧ W (i + 1) m' H') ∧ ∀ x H', (Itr lo n).yld i H x H' → Turn g tt te vs σ D x H' Nx) := by
  refine lc_fm (L2.walk_range (lo := lo) (n := n)) gm I hI i0 hn (fun _ _ => trivial) (fun i x H H' acc N hi p hD la y k => ?_) hd
  obtain ⟨rfl, rfl⟩ := y
  exact hs i _ acc N hi p hD la k
end
section
variable {J : It} {G : Hp → Prop} {g : TG} {tb : TS} {D : Ends} {σ : L2.St} {H : Hp}
/-- a for over xs (told as values by v) -/
theorem for_on {α : Type} (xs : List α) (v : α → V) (w : L2.Walk J (xs.map v).length G (L2.YAt (xs.map v))) (Pv : Nat → L2.St → Hp → Prop) (h0 : Pv 0 σ H) (hG : ∀ i σ H, Pv i σ H → G H)
    (hs : ∀ (i : Nat) (x : α) (σ : L2.St) (H : Hp), xs[i]? = some x → Pv i σ H → g (v x) σ H fun σ2 H2 => tb { D with nx := Pv (i + 1), ct := Pv (i + 1), bk := D.nx } σ2 H2) (hd : ∀ σ H, Pv xs.length σ H → D.nx σ H) :
    ∃ W : Nat → Nat → L2.St → Hp → Prop, (∃ m, W 0 m σ H) ∧ ∀ i m σ H, W i m σ H →
      (J.stop i H ∧ D.nx σ H) ∨ (J.go i H ∧ ∃ N : L2.St → Hp → Prop, (∀ σ' H', N σ' H' → ∃ m', m' < m ∧ W (i + 1) m' σ' H') ∧ ∀ x H', J.yld i H x H' → g x σ H' fun σ2 H2 => tb { D with nx := N, ct := N, bk := D.nx } σ2 H2) := by
  refine L2.for_it w Pv h0 (fun i σ H _ p => hG i σ H p) (fun i x σ H H' hi p y => ?_) (fun σ H p => hd σ H (by rw [List.length_map] at p; exact p))
  obtain ⟨rfl, hx⟩ := y
  rw [List.getElem?_map] at hx
  obtain ⟨z, hz, rfl⟩ := Option.map_eq_some_iff.mp hx
  exact hs i z σ _ hz p
end
theorem take_snoc {α : Type} {l : List α} {i : Nat} {x : α} (h : l[i]? = some x) : l.take (i + 1) = l.take i ++ [x] := by
  rw [List.take_add_one, h]
  rfl
theorem catA_of {K : PySem.W.Frag} {H : Hp} {a b : Addr} {xs ys : List V} {Q : VK} (ha : SqT K H a xs) (hb : SqT K H b ys) (hz : xs.length + ys.length ≤ sizeLine) (q : ∀ p H', Ex H H' → SqT K H' p (xs ++ ys) → Q (.ref p) H') : rCatA K (.ref a) (.ref b) H Q := by
  refine ⟨a, b, xs, ys, rfl, rfl, ha, hb, hz, fun e => ?_, fun _ e => ?_, fun _ _ p np => ?_⟩
  · exact q b H (.refl _) (by rw [e]; exact hb)
  · exact q a H (.refl _) (by rw [e, List.append_nil]; exact ha)
  · exact q p _ (ex_new np) (sq_tup upd_same)
/-- what stands elsewhere than at f stays -/
def Oth (f : Addr) (H H' : Hp) : Prop := ∀ b o, b ≠ f → H b = some o → H' b = some o
theorem Oth.refl (f : Addr) (H : Hp) : Oth f H H := fun _ _ _ e => e
theorem Oth.trans {f : Addr} {H H1 H2 : Hp} (a : Oth f H H1) (b : Oth f H1 H2) : Oth f H H2 := fun c o h e => b c o h (a c o h e)
theorem ex_oth {f : Addr} {H H1 : Hp} (a : Ex H H1) : Oth f H H1 := fun c o _ e => a c o e
theorem Oth.upd {f : Addr} {H H1 : Hp} {o : HO} (a : Oth f H H1) : Oth f H (L2.upd H1 f o) := fun b u nb e => by rw [upd_ne nb]; exact a b u nb e
theorem Oth.ex {f : Addr} {H0 H H1 : Hp} (x : Ex H0 H) (n : H0 f = none) (a : Oth f H H1) : Ex H0 H1 := fun b o e => a b o (ne_of_none e n) (x b o e)
/-! ### repr of any data -/
@[irreducible] def rReprX (K : PySem.W.Frag) : List V → Hp → VK → Prop := fun xs H Q => ∃ (x : V) (d : PyData), xs = [x] ∧ Dp K H x d ∧ d.hasDict = false ∧ d.showable = true ∧ d.depth ≤ 60 ∧ d.shown.length ≤ sizeLine ∧ Q (.str d.shown) H
theorem call_reprX {X : Cx} {k : Nat} (K : PySem.W.Frag) (hr : Rm k X.A) (hK : X.K = K := by rfl) : CallR X (.builtin "repr") (rReprX K) := by
  subst hK
  intro pins s σ H xs us Q I r h
  unfold rReprX at h
  obtain ⟨x, d, rfl, hd, hnd, hs, hdp, hsz, q⟩ := h
  have main : ∀ a, x = .ref a → wpAny (model X.prog X.w) X.A (call (.builtin "repr") us) (EP X pins σ Q) X.xe s := fun a ea => by
    subst ea
    refine call_repr hr pins s σ H [.ref a] us Q I r ?_
    unfold rRepr
    exact ⟨a, d, rfl, hd, hnd, hs, hdp, hsz, q⟩
  cases hd with
  | non =>
    obtain ⟨u, rfl, e⟩ := vals1 r
    obtain rfl : u = Value.none := e
    exact PySem.P.repr_of_none ⟨.str _, H, I.tok _, ⟨_, rfl⟩, q⟩
  | bl b =>
    obtain ⟨u, rfl, e⟩ := vals1 r
    obtain rfl : u = Value.bool b := e
    exact PySem.P.repr_of_bool ⟨.str _, H, I.tok _, ⟨_, rfl⟩, q⟩
  | int i =>
    obtain ⟨u, rfl, t, rfl⟩ := vals1 r
    exact PySem.P.repr_of_int (of_decide_eq_true hs) ⟨.str _, H, I.tok _, ⟨_, rfl⟩, q⟩
  | str z =>
    obtain ⟨u, rfl, t, rfl⟩ := vals1 r
    exact PySem.P.repr_of_str ⟨.str _, H, I.tok _, ⟨_, rfl⟩, q⟩ hsz
  | lst _ _ => exact main _ rfl
  | tup _ _ => exact main _ rfl
theorem rx_data {K : PySem.W.Frag} {H : Hp} {x : V} {d : PyData} {Q : VK} (h : Dp K H x d) (ho : okD d = true) (hz : szD d ≤ 16000000) (hd : d.depth ≤ 60) (q : Q (.str d.shown) H) : rReprX K [x] H Q := by
  obtain ⟨h1, h2, h3⟩ := okD_tells d ho
  unfold rReprX
  exact ⟨x, d, rfl, h, h1, h2, hd, Nat.le_trans h3 (Nat.le_trans hz (by rw [sizeLine_eq]; decide)), q⟩
theorem sz_le {n : Nat} (h : n ≤ 100000) : n ≤ sizeLine := Nat.le_of_lt (small_len h)
end L3
set_option Elab.async false
set_option linter.all false
set_option maxRecDepth 100000
set_option maxHeartbeats 4000000
namespace L3
open PySem PySem.Spec PyProof.Rows L2
theorem slA_of {K : PySem.W.Frag} {H : Hp} {a : Addr} {xs : List V} {lo hi : Option Int} {Q : VK} (ha : SqT K H a xs) (q : ∀ p H', Ex H H' → SqT K H' p (cutV xs lo hi) → Q (.ref p) H') : rSlA K (.ref a) lo hi H Q := by
  refine ⟨a, xs, rfl, ha, fun hw => q a H (.refl _) ?_, fun _ p np => q p _ (ex_new np) (sq_tup upd_same)⟩
  have e : cutV xs lo hi = xs := by
    unfold cutV
    rw [hw.1, hw.2]
    simp
  rw [e]
  exact ha
theorem tyOf_mono {K : PySem.W.Frag} {H H' : Hp} {x : V} {t : Value} (e : Ex H H') (h : TyOf K H x t) : TyOf K H' x t := by
  cases h with
  | non => exact .non
  | bl x => exact .bl x
  | int i => exact .int i
  | str x => exact .str x
  | flt x => exact .flt x
  | lst h => exact .lst (e _ _ h)
  | frz h => exact .frz (e _ _ h)
  | tup h => exact .tup (e _ _ h)
  | dK h => exact .dK (e _ _ h)
  | dT h => exact .dT (e _ _ h)
  | ins h cl ha hn htk hm => exact .ins (e _ _ h) cl ha hn htk hm
theorem tyX_mono {K : PySem.W.Frag} {H H' : Hp} {x : V} {t : Value} (e : Ex H H') (h : TyX K H x t) : TyX K H' x t := by
  cases h with
  | base h => exact .base (tyOf_mono e h)
  | byt b => exact .byt b
  | set h => exact .set (e _ _ h)
  | kList h c => exact .kList h c
  | kTuple h c => exact .kTuple h c
  | kDict h c => exact .kDict h c
  | fTuple h => exact .fTuple (e _ _ h)
  | fDict h => exact .fDict (e _ _ h)
theorem Cl.mono {K : PySem.W.Frag} {H H' : Hp} {x : V} (c : Cl K H x) (e : Ex H H') : Cl K H' x := let ⟨t, b, d, h1, h2⟩ := c; ⟨t, b, d, tyX_mono e h1, h2⟩
section
variable {J : It} {n : Nat} {G : Hp → Prop} {g : TG} {tt : TT} {te : TE} {vs : List Nat} {σ : L2.St} {H1 : Hp} {D : Addr} {Qd : Hp → Prop}
/-- a comprehension over pairs of xs and ys -/
theorem lc_zip {α β : Type} (xs : List α) (ys : List β) (v : α → V) (w : β → V) (wk : L2.Walk J n G (L2.YPair (fun i => (xs.map v)[i]?) (fun i => (ys.map w)[i]?))) (hn : n = min xs.length ys.length) (gm : α → β → Option V) (I : Hp → Prop) (hI : ∀ H l, I H → I (upd H D (.lst l))) (i0 : I H1) (hz : xs.length ≤ 100000) (hG : ∀ H, I H → G H)
    (hs : ∀ (i : Nat) (a : α) (b : β) (u : Addr) (H : Hp) (acc : List V) (N : Hp → Prop), xs[i]? = some a → ys[i]? = some b → I H → H u = none → H D = some (.lst acc) → acc.length < sizeLine →
      (∀ H4, I H4 → H4 D = some (.lst acc) → match gm a b with | some y => N (upd H4 D (.lst (acc ++ [y]))) | none => N H4) → Turn g tt te vs σ D (.ref u) (upd H u (.tup [v a, w b])) N)
    (hd : ∀ H, I H → H D = some (.lst ((xs.zip ys).filterMap fun p => gm p.1 p.2)) → Qd H) :
    ∃ W : Nat → Nat → Hp → Prop, (∃ m, W 0 m (upd H1 D (.lst []))) ∧ ∀ i m H, W i m H →
      (J.stop i H ∧ Qd H) ∨ (J.go i H ∧ ∃ Nx : Hp → Prop, (∀ H', Nx H' → ∃ m', m' < m ∧ W (i + 1) m' H') ∧ ∀ x H', J.yld i H x H' → Turn g tt te vs σ D x H' Nx) := by
  refine lc_fm wk (fun i => (xs.zip ys)[i]?.bind fun p => gm p.1 p.2) I hI i0 (by omega) hG (fun i x H H' acc N hi p hD la y k => ?_) fun H p hD => hd H p ?_
  · obtain ⟨u, x1, x2, rfl, nu, rfl, g1, g2⟩ := y
    dsimp only at g1 g2
    rw [List.getElem?_map] at g1 g2
    obtain ⟨a, ha, rfl⟩ := Option.map_eq_some_iff.mp g1
    obtain ⟨b, hb, rfl⟩ := Option.map_eq_some_iff.mp g2
    refine hs i a b u H acc N ha hb p nu hD la fun H4 p4 d4 => ?_
    have := k H4 p4 d4
    have ez : (xs.zip ys)[i]? = some (a, b) := by
      rw [List.getElem?_zip_eq_some]
      exact ⟨ha, hb⟩
    simp only [ez, Option.bind_some] at this
    exact this
  · rw [hD, hn, ← List.length_zip, range_fm]
end
end L3
set_option Elab.async false
set_option linter.all false
set_option maxRecDepth 100000
set_option maxHeartbeats 4000000
/-! own ==: both sides, != and in -/
namespace L3
open PySem PySem.Spec PyProof.Rows L2 PySem.SeqAt PySem.Calls
/-- a type, of which the class at C is no base, or which is that class -/
def NoSub (K : PySem.W.Frag) (C : Addr) (t : Value) : Prop := t = .ref C ∨ PySem.W.kitOne K t (.ref C) = some false
/-- the class at C is none of the types that decline -/
structure NoBase (K : PySem.W.Frag) (C : Addr) : Prop where
  non : PySem.W.mroIn K C (.type "NoneType") = some false
  bl : PySem.W.mroIn K C (.type "bool") = some false
  int : PySem.W.mroIn K C (.type "int") = some false
  str : PySem.W.mroIn K C (.type "str") = some false
  lst : PySem.W.mroIn K C (.type "list") = some false
  tup : PySem.W.mroIn K C (.type "tuple") = some false
  dct : PySem.W.mroIn K C (.type "dict") = some false
  ne : PySem.W.findIn K (.ref C) "__ne__" = some (some (.builtin "object.__ne__"))
  ob : PySem.W.mroIn K C (.type "object") = some true
def noBaseF (x : Str) : Fx := fun K => (["NoneType", "bool", "int", "str", "list", "tuple", "dict"].all fun T => decide (PySem.W.mroIn K (He.ga K x) (.type T) = some false)) &&
  (He.eqO (PySem.W.findIn K (.ref (He.ga K x)) "__ne__") (some (some (.builtin "object.__ne__"))) && decide (PySem.W.mroIn K (He.ga K x) (.type "object") = some true))
theorem noBase_of {x : Str} {K : PySem.W.Frag} (h : noBaseF x K = true) : NoBase K (He.ga K x) := by
  obtain ⟨h1, h⟩ := He.ba h
  obtain ⟨h2, h3⟩ := He.ba h
  have g : ∀ T ∈ ["NoneType", "bool", "int", "str", "list", "tuple", "dict"], PySem.W.mroIn K (He.ga K x) (.type T) = some false := fun T hT => of_decide_eq_true (List.all_eq_true.mp h1 T hT)
  exact ⟨g _ (by decide), g _ (by decide), g _ (by decide), g _ (by decide), g _ (by decide), g _ (by decide), g _ (by decide), He.eqO_ok h2, of_decide_eq_true h3⟩
theorem noSub_look {K : PySem.W.Frag} {C : Addr} {t : Value} (h : NoSub K C t) {M : Model} {hp : Heap} (X : K.In hp) (q : (Value.ref C != t) = true) : PySem.W.Looks M hp (isSubtype t (.ref C)) false := by
  rcases h with rfl | h
  · simp at q
  · unfold PySem.W.kitOne at h
    split at h
    · cases h
    · exact (PySem.W.kit_cls X h).2.2
section
variable {prog : Program} {w : World} {A : Around} {E : Value → Shared → Prop} {s : Shared} {K : PySem.W.Frag} {x C f : Addr} {ox : Obj} {od : Option Obj} {b tb : Value}
theorem try_own {Q : Value → Shared → Prop} {n : Str} (X : K.In s.heap) (I : PySem.W.InstAt s.heap x ox C od) (hm : Meth K C n f)
    (h : wpAny (model prog w) A (call (.ref f) [.ref x, b]) (PySem.W.CmpBack Q) E s) : wpAny (model prog w) A (tryCompare (.ref x) n b) (fun r s' => ∃ v, r = some v ∧ Q v s') E s := by
  unfold tryCompare
  refine wpAny_bind (PySem.W.ifBound_K X I hm.at_ hm.fn (wpAny_mono h (fun v s' hv => ?_) fun _ _ e => e))
  cases v <;> first | exact hv.elim | exact wpAny_pure ⟨_, rfl, hv⟩
theorem rc_ownL {Q : Value → Shared → Prop} (hu : A.units < cLine) (X : K.In s.heap) (I : PySem.W.InstAt s.heap x ox C od) (hb : PySem.W.Looks (model prog w) s.heap (typeOf b) tb) (hn : NoSub K C tb) (hm : Meth K C "__eq__" f)
    (h : wpAny (model prog w) A (call (.ref f) [.ref x, b]) (PySem.W.CmpBack Q) E s) : wpAny (model prog w) A (richCompare .Eq (.ref x) b) Q E s := by
  have one := try_own (b := b) X I hm h
  simp only [richCompare, cmpInfo_Eq, oneThing_ref]
  refine wpAny_holding (wpAny_bind (wpAny_cRoomFor hu ?_))
  refine wpAny_bind (I.type.here (wpAny_bind (hb.here ?_)))
  split
  · rename_i q
    refine wpAny_bind ((noSub_look hn X q).here ?_)
    simp only [Bool.false_eq_true, if_false]
    refine wpAny_bind (wpAny_mono one (fun r s' z => ?_) fun _ _ e => e)
    obtain ⟨v, rfl, hq⟩ := z
    exact wpAny_pure hq
  · refine wpAny_bind (wpAny_pure ?_)
    simp only [Bool.false_eq_true, if_false]
    refine wpAny_bind (wpAny_mono one (fun r s' z => ?_) fun _ _ e => e)
    obtain ⟨v, rfl, hq⟩ := z
    exact wpAny_pure hq
/-- a value that declines: then the right one's own == -/
theorem rc_ownR {Q : Value → Shared → Prop} {T : String} (hu : A.units < cLine) (X : K.In s.heap) (I : PySem.W.InstAt s.heap x ox C od) (hb : s.TypeIs b T) (ho : oneThing? .Eq b (.ref x) = none) (hn : PySem.W.mroIn K C (.type T) = some false) (hm : Meth K C "__eq__" f)
    (hd : ∀ Q' : Option Value → Shared → Prop, Q' none s → wpAny (model prog w) A (tryCompare b "__eq__" (.ref x)) Q' E s)
    (h : wpAny (model prog w) A (call (.ref f) [.ref x, b]) (PySem.W.CmpBack Q) E s) : wpAny (model prog w) A (richCompare .Eq b (.ref x)) Q E s := by
  have one := try_own (b := b) X I hm h
  simp only [richCompare, cmpInfo_Eq, ho]
  refine wpAny_holding (wpAny_bind (wpAny_cRoomFor hu ?_))
  refine wpAny_bind (wpAny_typeOf hb (wpAny_bind (I.type.here ?_)))
  split
  · refine wpAny_bind ((PySem.W.looks_mroIn X hn).here ?_)
    simp only [Bool.false_eq_true, if_false, Bool.not_false, if_true]
    refine wpAny_bind (m := tryCompare b _ (.ref x)) (hd _ ?_)
    refine wpAny_bind (m := tryCompare (.ref x) _ b) (wpAny_mono one (fun r s' z => ?_) fun _ _ e => e)
    obtain ⟨v, rfl, hq⟩ := z
    exact wpAny_pure hq
  · rename_i q
    exact absurd (by simp) q
end
section
variable {prog : Program} {w : World} {A : Around} {E : Value → Shared → Prop} {s : Shared} {K : PySem.W.Frag} {x C dx : Addr} {od : Option Obj}
theorem int_dec_ins (b : Int) (u : Tok) (l C dx : Addr) :
    Meets (Builtin.«int.__eq__» ⟨[.int b u, .ref l], []⟩) (fun _ R s => s.heap.get? l = some { cls := .ref C, dict := some dx, data := .plain } ∧ R (.ok (.ret .notImplemented)) s) :=
  .of_wp fun prog w A R s h => by obtain ⟨hp, g, d, tk, os⟩ := s; obtain ⟨hl, h⟩ := h; wp_walk using wpAny_loadPart' hl, wpAny_load hl; exact ⟨_, rfl, h⟩
theorem bool_dec_ins (b : Bool) (l C dx : Addr) :
    Meets (Builtin.«int.__eq__» ⟨[.bool b, .ref l], []⟩) (fun _ R s => s.heap.get? l = some { cls := .ref C, dict := some dx, data := .plain } ∧ R (.ok (.ret .notImplemented)) s) :=
  .of_wp fun prog w A R s h => by obtain ⟨hp, g, d, tk, os⟩ := s; obtain ⟨hl, h⟩ := h; wp_walk using wpAny_loadPart' hl, wpAny_load hl; exact ⟨_, rfl, h⟩
theorem str_dec_ins (b : Str) (u : Tok) (l C dx : Addr) :
    Meets (Builtin.«str.__eq__» ⟨[.str b u, .ref l], []⟩) (fun _ R s => s.heap.get? l = some { cls := .ref C, dict := some dx, data := .plain } ∧ R (.ok (.ret .notImplemented)) s) :=
  .of_wp fun prog w A R s h => by obtain ⟨hp, g, d, tk, os⟩ := s; obtain ⟨hl, h⟩ := h; wp_walk using wpAny_loadPart' hl, wpAny_load hl; exact ⟨_, rfl, h⟩
theorem wpAny_noInst {M : Model} {T : String} {Q : Bool → Shared → Prop} (X : K.In s.heap) (I : PySem.W.InstAt s.heap x (PySem.W.instObj C dx) C od) (hn : PySem.W.mroIn K C (.type T) = some false) (h : Q false s) : wpAny M A (isInstance (.ref x) (.type T)) Q E s := by
  unfold isInstance
  exact wpAny_bind (I.type.here ((PySem.W.looks_mroIn X hn).here h))
theorem list_dec_ins (l : Addr) (X : K.In s.heap) (I : PySem.W.InstAt s.heap x (PySem.W.instObj C dx) C od) (hn : PySem.W.mroIn K C (.type "list") = some false) {Q : Fin → Shared → Prop} (h : Q (.done (.ret .notImplemented)) s) :
    wpAny (model prog w) A (Builtin.«list.__eq__» ⟨[.ref l, .ref x], []⟩) Q E s := by
  unfold Builtin.«list.__eq__»
  wp_walk using wpAny_noInst X I hn
  exact h
theorem tuple_dec_ins (l : Addr) (X : K.In s.heap) (I : PySem.W.InstAt s.heap x (PySem.W.instObj C dx) C od) (hn : PySem.W.mroIn K C (.type "tuple") = some false) {Q : Fin → Shared → Prop} (h : Q (.done (.ret .notImplemented)) s) :
    wpAny (model prog w) A (Builtin.«tuple.__eq__» ⟨[.ref l, .ref x], []⟩) Q E s := by
  unfold Builtin.«tuple.__eq__»
  wp_walk using wpAny_noInst X I hn
  exact h
theorem dict_dec_ins (l : Addr) (hT : s.TypeIs (.ref l) "dict") (X : K.In s.heap) (I : PySem.W.InstAt s.heap x (PySem.W.instObj C dx) C od) (hn : PySem.W.mroIn K C (.type "dict") = some false) {Q : Fin → Shared → Prop} (h : Q (.done (.ret .notImplemented)) s) :
    wpAny (model prog w) A (Builtin.«dict.__eq__» ⟨[.ref l, .ref x], []⟩) Q E s := by
  show wpAny _ _ (Builtin.Dict.dictSlotArgs "__eq__" ⟨[.ref l, .ref x], []⟩ >>= _) _ _ s
  refine wpAny_bind ?_
  unfold Builtin.Dict.dictSlotArgs
  refine wpAny_bind (wpAny_notOrdered_dict hT ?_)
  show wpAny _ _ (pure (Value.ref l, Value.ref x)) _ _ s
  refine wpAny_pure ?_
  refine wpAny_bind (wpAny_noInst X I hn ?_)
  simp only [Bool.not_false, if_true]
  refine wpAny_bind (wpAny_rule ?_)
  exact wpAny_pure h
end
theorem cmpback_ {P : Value → Shared → Prop} {z : V} {v : Value} {s' : Shared} (r : RelV z v) (h : P v s') : PySem.W.CmpBack P v s' := by
  cases v with
  | notImplemented =>
    cases z with
    | int i => exact nomatch (show ∃ t, Value.notImplemented = Value.int i t from r)
    | str i => exact nomatch (show ∃ t, Value.notImplemented = Value.str i t from r)
    | byt i => exact nomatch (show ∃ t, Value.notImplemented = Value.bytes i t from r)
    | flt i => exact nomatch (show ∃ t, Value.notImplemented = Value.float i t from r)
    | non => exact nomatch (show Value.notImplemented = Value.none from r)
    | bl b => exact nomatch (show Value.notImplemented = Value.bool b from r)
    | ref a => exact nomatch (show Value.notImplemented = Value.ref a from r)
    | ty n => exact nomatch (show Value.notImplemented = Value.type n from r)
  | _ => exact h
/-- values whose == declines an instance -/
inductive Dec (K : PySem.W.Frag) (H : Hp) : V → Prop where
  | non : Dec K H .non
  | bl (b : Bool) : Dec K H (.bl b)
  | int (i : Int) : Dec K H (.int i)
  | str (z : Str) : Dec K H (.str z)
  | lst {a : Addr} {xs : List V} (e : SqL K H a xs) : Dec K H (.ref a)
  | tup {a : Addr} {xs : List V} (e : SqT K H a xs) : Dec K H (.ref a)
  | dK {a : Addr} {kvs : List (Key × V)} (e : H a = some (.dK kvs)) : Dec K H (.ref a)
/-- a rich comparison below the running body -/
def RcO (X : Cx) (k : Nat) (r : R2) : Prop := ∀ (A : Around) (pins : List (Addr × Obj)) (s : Shared) (σ : L2.St) (H : Hp) (x y : V) (u v : Value) (Q : VK), Rm k A → A.frames = X.A.frames → Inv X pins σ H s → RelV x u → RelV y v → r x y H Q →
  wpAny (model X.prog X.w) A (richCompare .Eq u v) (EP X pins σ Q) X.xe s
section
variable {X : Cx} {k : Nat} {f C : Addr} {sp : Sp} {pins : List (Addr × Obj)} {σ : L2.St} {H : Hp} {s : Shared}
theorem dec_try {x : Addr} {dx : Addr} {od : Option Obj} {z : V} {u : Value} (I : Inv X pins σ H s) (r : RelV z u) (d : Dec X.K H z) (J : PySem.W.InstAt s.heap x (PySem.W.instObj C dx) C od) (nb : NoBase X.K C) :
    ∃ T, s.TypeIs u T ∧ oneThing? .Eq u (.ref x) = none ∧ PySem.W.mroIn X.K C (.type T) = some false ∧ ∀ (A : Around) (E : Value → Shared → Prop) (Q' : Option Value → Shared → Prop), Q' none s → wpAny (model X.prog X.w) A (tryCompare u "__eq__" (.ref x)) Q' E s := by
  cases d with
  | non =>
    cases (show u = Value.none from r)
    exact ⟨"NoneType", rfl, rfl, nb.non, fun A E Q' h => wpAny_tryCompare_declines (show s.TypeIs .none "NoneType" from rfl) F.slot_NoneType_eq (call_gives F.slot_NoneType_eq rfl F.entry_NoneType_eq (F.args_NoneType_eq_2 _ _) (NoneType___eq___none_ref_0 x) ⟨rfl, h⟩)⟩
  | bl b =>
    cases (show u = Value.bool b from r)
    exact ⟨"bool", rfl, rfl, nb.bl, fun A E Q' h => wpAny_tryCompare_declines (show s.TypeIs (.bool b) "bool" from rfl) F.slot_bool_eq (call_meets F.slot_bool_eq rfl F.entry_int_eq (F.args_int_eq_2 _ _) (bool_dec_ins b x C dx) ⟨J.at_, rfl, h⟩)⟩
  | int i =>
    obtain ⟨t, e⟩ := (show ∃ t, u = Value.int i t from r)
    cases e
    exact ⟨"int", typeIs_int s i t, rfl, nb.int, fun A E Q' h => wpAny_tryCompare_declines (typeIs_int s i t) F.slot_int_eq (call_meets F.slot_int_eq (typeIs_int s i t) F.entry_int_eq (F.args_int_eq_2 _ _) (int_dec_ins i t x C dx) ⟨J.at_, rfl, h⟩)⟩
  | str z =>
    obtain ⟨t, e⟩ := (show ∃ t, u = Value.str z t from r)
    cases e
    exact ⟨"str", typeIs_str s z t, rfl, nb.str, fun A E Q' h => wpAny_tryCompare_declines (typeIs_str s z t) F.slot_str_eq (call_meets F.slot_str_eq (typeIs_str s z t) F.entry_str_eq (F.args_str_eq_2 _ _) (str_dec_ins z t x C dx) ⟨J.at_, rfl, h⟩)⟩
  | @lst a xs e =>
    cases (show u = Value.ref a from r)
    obtain ⟨its, rl, pl, hz⟩ := I.list e
    obtain ⟨o, n, ho, hc, _⟩ := pl
    have hT : s.TypeIs (.ref a) "list" := ⟨_, ho, hc⟩
    exact ⟨"list", hT, oneThing_ref _ _ _, nb.lst, fun A E Q' h => wpAny_tryCompare_declines hT F.slot_list_eq (wpAny_call_entry F.slot_list_eq hT F.entry_list_eq (list_dec_ins a I.kIn J nb.lst ⟨_, rfl, rfl, h⟩) (F.args_list_eq_2 _ _))⟩
  | @tup a xs e =>
    cases (show u = Value.ref a from r)
    obtain ⟨its, rl, ⟨o, ho, hc, n, d⟩, hz⟩ := I.tuple e
    have hT : s.TypeIs (.ref a) "tuple" := ⟨_, ho, hc⟩
    exact ⟨"tuple", hT, oneThing_ref _ _ _, nb.tup, fun A E Q' h => wpAny_tryCompare_declines hT F.slot_tuple_eq (wpAny_call_entry F.slot_tuple_eq hT F.entry_tuple_eq (tuple_dec_ins a I.kIn J nb.tup ⟨_, rfl, rfl, h⟩) (F.args_tuple_eq_2 _ _))⟩
  | @dK a kvs e =>
    cases (show u = Value.ref a from r)
    have hT : s.TypeIs (.ref a) "dict" := by
      obtain ⟨_, _, vs, _, hD⟩ := (show ObjOk _ _ H s.heap a (.dK kvs) from I.hok a _ e)
      exact hD.typeIs
    exact ⟨"dict", hT, oneThing_ref _ _ _, nb.dct, fun A E Q' h => wpAny_tryCompare_declines hT F.slot_dict_eq (wpAny_call_entry F.slot_dict_eq hT F.entry_dict_eq (dict_dec_ins a hT I.kIn J nb.dct ⟨_, rfl, rfl, h⟩) (F.args_dict_eq_2 _ _))⟩
/-- x == y: x an instance of C -/
def rEqL (K : PySem.W.Frag) (C : Addr) (sp : Sp) : R2 := fun x y H Q => ∃ a dx fs t, x = .ref a ∧ H a = some (.ins C dx fs) ∧ TyX K H y t ∧ NoSub K C t ∧ sp [x, y] H Q (fun _ _ _ => False)
/-- x == y: y an instance of C, x declines -/
def rEqR (K : PySem.W.Frag) (C : Addr) (sp : Sp) : R2 := fun x y H Q => ∃ a dx fs, y = .ref a ∧ H a = some (.ins C dx fs) ∧ Dec K H x ∧ sp [y, x] H Q (fun _ _ _ => False)
theorem rco_L (hm : Meth X.K C "__eq__" f) (F : Fc X.prog X.w X.K X.mg X.base k f [] sp) : RcO X k (rEqL X.K C sp) := by
  intro A pins s σ H x y u v Q hr hf I rx ry h
  obtain ⟨a, dx, fs, t, rfl, ha, ty, ns, hsp⟩ := h
  cases (show u = Value.ref a from rx)
  obtain ⟨mA, J, _⟩ := ins_get I.hok ha
  obtain ⟨od, J, _⟩ := J.look
  obtain ⟨P, kx, hP, _⟩ := kit_of I ry ty
  have run := run_fcA (A := A) (W := fun _ _ _ _ => False) (us := [.ref a, v]) (ws := []) (vs := [.ref a, y]) (σ := σ) F hr hf takes0 I (.cons rfl (.cons ry .nil)) rfl hsp
  refine rc_ownL (by have := hr.rm.un; omega) I.kIn J (kx.ty _ _ I.kIn hP) ns hm (wpAny_mono run (fun w s' z => ?_) fun _ _ x => x)
  obtain ⟨z', H', I', rz, qz⟩ := z
  exact cmpback_ rz ⟨z', H', I', rz, qz⟩
theorem rco_R (nb : NoBase X.K C) (hm : Meth X.K C "__eq__" f) (F : Fc X.prog X.w X.K X.mg X.base k f [] sp) : RcO X k (rEqR X.K C sp) := by
  intro A pins s σ H x y u v Q hr hf I rx ry h
  obtain ⟨a, dx, fs, rfl, ha, d, hsp⟩ := h
  cases (show v = Value.ref a from ry)
  obtain ⟨mA, J, _⟩ := ins_get I.hok ha
  obtain ⟨od, J, _⟩ := J.look
  obtain ⟨T, hT, h1, hn, hd⟩ := dec_try I rx d J nb
  have run := run_fcA (A := A) (W := fun _ _ _ _ => False) (us := [.ref a, u]) (ws := []) (vs := [.ref a, x]) (σ := σ) F hr hf takes0 I (.cons rfl (.cons rx .nil)) rfl hsp
  refine rc_ownR (by have := hr.rm.un; omega) I.kIn J hT h1 hn hm (hd _ _) (wpAny_mono run (fun w s' z => ?_) fun _ _ x => x)
  obtain ⟨z', H', I', rz, qz⟩ := z
  exact cmpback_ rz ⟨z', H', I', rz, qz⟩
def rOr (r r' : R2) : R2 := fun x y H Q => r x y H Q ∨ r' x y H Q
theorem rco_or {r r' : R2} (h : RcO X k r) (h' : RcO X k r') : RcO X k (rOr r r') := fun A pins s σ H x y u v Q hr hf I rx ry q =>
  q.elim (fun q => h A pins s σ H x y u v Q hr hf I rx ry q) fun q => h' A pins s σ H x y u v Q hr hf I rx ry q
theorem rco_mono {r : R2} {j : Nat} (h : RcO X j r) (hj : j ≤ k) : RcO X k r := fun A pins s σ H x y u v Q hr hf I rx ry q => h A pins s σ H x y u v Q (hr.mono hj) hf I rx ry q
theorem op_eqO {r : R2} (h : RcO X k r) (hr : Rm k X.A) : OpR X (compareOp .Eq) r := fun pins s σ H x y u v Q I rx ry q => h X.A pins s σ H x y u v Q hr rfl I rx ry q
theorem ifBound_objNe {M : Model} {A : Around} {E : Value → Shared → Prop} {K : PySem.W.Frag} {x : Addr} {ox : Obj} {od : Option Obj} {args : List Value} {Q : Option Value → Shared → Prop} (X : K.In s.heap) (I : PySem.W.InstAt s.heap x ox C od) (hs : PySem.W.findIn K (.ref C) "__ne__" = some (some (.builtin "object.__ne__")))
    (h : wpAny M A (call (.builtin "object.__ne__") (.ref x :: args)) (fun v => Q (some v)) E s) : wpAny M A (callSpecialIfBound? (.ref x) "__ne__" args) Q E s := by
  simp only [callSpecialIfBound?, bindSpecialIfBound?]
  refine wpAny_holding (wpAny_bind (wpAny_bind (wpAny_bind (I.type.here ((PySem.W.looks_findIn X hs).here ?_)))))
  refine wpAny_bind (wpAny_askSetting (wpAny_ite ?_))
  have fin : wpAny M A (call (.builtin "object.__ne__") ([.ref x] ++ args) >>= fun v => pure (some v)) Q E s := wpAny_bind (wpAny_mono h (fun v s' h' => wpAny_pure h') fun _ _ h' => h')
  split
  · exact wpAny_bind (wpAny_of_eq (F.cmp_object.ne.bind _) (wpAny_pure (by exact fin)))
  · exact wpAny_tryCatch (wpAny_bind (wpAny_of_eq (F.cmp_object.ne.bind _) (wpAny_pure (by exact fin))))
/-- x != y by the own ==: x an instance of C -/
def rNeL (K : PySem.W.Frag) (C : Addr) (sp : Sp) : R2 := fun x y H Q => ∃ a dx fs t, x = .ref a ∧ H a = some (.ins C dx fs) ∧ TyX K H y t ∧ NoSub K C t ∧ sp [x, y] H (fun v H' => ∃ b, v = .bl b ∧ Q (.bl (!b)) H') (fun _ _ _ => False)
theorem op_neO (nb : NoBase X.K C) (hm : Meth X.K C "__eq__" f) (F : Fc X.prog X.w X.K X.mg X.base k f [] sp) (hr : Rm (k + 1) X.A) : OpR X (compareOp .NotEq) (rNeL X.K C sp) := by
  intro pins s σ H x y u v Q I rx ry h
  obtain ⟨a, dx, fs, t, rfl, ha, ty, ns, hsp⟩ := h
  cases (show u = Value.ref a from rx)
  obtain ⟨mA, J, _⟩ := ins_get I.hok ha
  obtain ⟨od, J, _⟩ := J.look
  obtain ⟨P, kx, hP, _⟩ := kit_of I ry ty
  have hb := kx.ty (model X.prog X.w) _ I.kIn hP
  have run := run_fcA (A := X.A.in1) (W := fun _ _ _ _ => False) (us := [.ref a, v]) (ws := []) (vs := [.ref a, y]) (σ := σ) F hr.in1 rfl takes0 I (.cons rfl (.cons ry .nil)) rfl hsp
  have one : wpAny (model X.prog X.w) X.A (tryCompare (.ref a) "__ne__" v) (fun r s' => ∃ z, r = some z ∧ EP X pins σ Q z s') X.xe s := by
    unfold tryCompare
    refine wpAny_bind (ifBound_objNe I.kIn J nb.ne (wpAny_call (codeAny_call_builtin PySem.F.cmp_object.ne.plain PySem.F.cmpEntry_ne (PySem.W.check_slot PySem.F.cmpKind_ne PySem.F.cmpSplit_ne (J.type.andThen (PySem.W.looks_mroIn I.kIn nb.ob)) (PySem.F.cmpArgs_ne _ _) ?_))))
    show wpAny _ X.A.in1 _ _ _ _
    have two : wpAny (model X.prog X.w) X.A.in1 (callSpecialIfBound? (.ref a) "__eq__" [v]) (fun r s' => ∃ b, r = some (.bool b) ∧ ∃ H', Inv X pins σ H' s' ∧ Q (.bl (!b)) H') X.xe s := by
      refine PySem.W.ifBound_K I.kIn J hm.at_ hm.fn (wpAny_mono run (fun w s' z => ?_) fun _ _ x => x)
      obtain ⟨z', H', I', rz, b, rfl, qz⟩ := z
      cases (show w = Value.bool b from rz)
      exact ⟨b, rfl, H', I', qz⟩
    unfold Builtin.«object.__ne__»
    refine wpAny_bind (wpAny_pure ?_)
    refine wpAny_bind (wpAny_cRoomFor (by have := hr.in1.rm.un; omega) ?_)
    refine wpAny_bind (wpAny_mono two (fun r s' z => ?_) fun _ _ x => x)
    obtain ⟨b, rfl, H', I', qz⟩ := z
    refine wpAny_bind (wpAny_truthy_bool ?_)
    exact wpAny_pure (wpAny_pure ⟨_, rfl, ⟨.bl (!b), H', I', rfl, qz⟩⟩)
  show wpAny _ _ (richCompare .NotEq (.ref a) v) _ _ _
  simp only [richCompare, cmpInfo_NotEq, oneThing_ref]
  refine wpAny_holding (wpAny_bind (wpAny_cRoomFor (by have := hr.rm.un; omega) ?_))
  refine wpAny_bind (J.type.here (wpAny_bind (hb.here ?_)))
  split
  · rename_i q
    refine wpAny_bind ((noSub_look ns I.kIn q).here ?_)
    simp only [Bool.false_eq_true, if_false]
    refine wpAny_bind (wpAny_mono one (fun r s' z => ?_) fun _ _ e => e)
    obtain ⟨v, rfl, hq⟩ := z
    exact wpAny_pure hq
  · refine wpAny_bind (wpAny_pure ?_)
    simp only [Bool.false_eq_true, if_false]
    refine wpAny_bind (wpAny_mono one (fun r s' z => ?_) fun _ _ e => e)
    obtain ⟨v, rfl, hq⟩ := z
    exact wpAny_pure hq
/-- x in a list, each item compared by r, the same object found ahead -/
def inW (r : R2) (K : PySem.W.Frag) (a : Addr) (ys : List V) (b : Addr) : List V → Hp → (Bool → Hp → Prop) → Prop
  | [], H, Q => SqL K H a ys ∧ Q false H
  | y :: l, H, Q => SqL K H a ys ∧ ((y = .ref b ∧ Q true H) ∨ (y ≠ .ref b ∧ r y (.ref b) H fun v H' => ∃ z, v = .bl z ∧ if z = true then Q true H' else inW r K a ys b l H' Q))
def rInO (r : R2) (K : PySem.W.Frag) : R2 := fun x y H Q => ∃ b a ys, x = .ref b ∧ y = .ref a ∧ inW r K a ys b ys H fun b H' => Q (.bl b) H'
theorem eqBool_itm {A : Around} {r : R2} {b : Addr} {y : V} {u : Value} (h : RcO X k r) (hr : Rm k A) (hf : A.frames = X.A.frames) (I : Inv X pins σ H s) (ry : RelV y u) {Q : Bool → Hp → Prop}
    (q : (y = .ref b ∧ Q true H) ∨ (y ≠ .ref b ∧ r y (.ref b) H fun v H' => ∃ z, v = .bl z ∧ Q z H')) : wpAny (model X.prog X.w) A (eqBool u (.ref b)) (fun z s' => ∃ H', Inv X pins σ H' s' ∧ Q z H') X.xe s := by
  rcases q with ⟨rfl, q⟩ | ⟨ne, q⟩
  · cases (show u = Value.ref b from ry)
    exact SeqAt.EqAt.same (A := A) (s := s) (.ref b) X.prog X.w X.xe _ ⟨H, I, q⟩
  · have hu : (u == Value.ref b) = false := by
      rw [beq_eq_false_iff_ne]
      rintro rfl
      apply ne
      cases y with
      | ref a => injection (show Value.ref b = Value.ref a from ry) with e; rw [e]
      | int i => exact nomatch (show ∃ t, Value.ref b = Value.int i t from ry)
      | str i => exact nomatch (show ∃ t, Value.ref b = Value.str i t from ry)
      | byt i => exact nomatch (show ∃ t, Value.ref b = Value.bytes i t from ry)
      | flt i => exact nomatch (show ∃ t, Value.ref b = Value.float i t from ry)
      | non => exact nomatch (show Value.ref b = Value.none from ry)
      | bl c => exact nomatch (show Value.ref b = Value.bool c from ry)
      | ty n => exact nomatch (show Value.ref b = Value.type n from ry)
    have run := h A pins s σ H y (.ref b) u (.ref b) _ hr hf I ry rfl q
    unfold eqBool
    refine wpAny_holding ?_
    refine wpAny_ite_split (fun hab => absurd hab (by rw [hu]; decide)) (fun _ => ?_)
    have fin : wpAny (model X.prog X.w) A (richCompare .Eq u (.ref b) >>= fun v => truthOfDropped v) (fun z s' => ∃ H', Inv X pins σ H' s' ∧ Q z H') X.xe s := by
      refine wpAny_bind (wpAny_mono run (fun v s' hv => ?_) fun _ _ x => x)
      obtain ⟨z', H', I', rz, z, rfl, q⟩ := hv
      cases (show v = Value.bool z from rz)
      exact wpAny_truthy_bool ⟨H', I', q⟩
    cases u <;> exact fin
theorem in_loop {r : R2} {a b : Addr} {ys : List V} (h : RcO X k r) {R : Result → Shared → Prop} (hE : ∀ e s', X.xe e s' → R (.error e) s') (hr : Rm (k + 1) X.A) (Q : Bool → Hp → Prop) (hR : ∀ z H' s', Inv X pins σ H' s' → Q z H' → R (.ok (.ret (.bool z))) s') :
    ∀ (l : List V) (i : Nat) (H : Hp) (s : Shared), l = ys.drop i → Inv X pins σ H s → inW r X.K a ys b l H Q → wpAny (model X.prog X.w) X.A.in1 (Builtin.«list.__contains__.loop» ⟨[.ref a, .ref b, rawInt i], []⟩) (GQ.FinOf X.prog X.w X.A R) (fun e s' => R (.error e) s') s
  | [], i, H, s, el, I, hq => by
    obtain ⟨hS, q⟩ := hq
    obtain ⟨its, rl, pl, hz⟩ := I.list hS
    obtain ⟨⟨cls, dd, data, sl⟩, n, ho, hc, hd, hs⟩ := pl
    simp only at hc hd hs
    subst hc hd hs
    have hlen : ys.length ≤ i := List.drop_eq_nil_iff.mp el.symm
    have hR' := hR false H s I q
    have hl2 : its.length = ys.length := rl.length.symm
    obtain ⟨hp, g, d, tk, os⟩ := s
    wp_walk using AutoSeq1.wpAny_loadPart' ho
    have hi : its.toArray[((i : Nat) : Int).toNat]? = none := by simp; omega
    rw [hi]
    wp_walk
    exact hR'
  | y :: l, i, H, s, el, I, hq => by
    obtain ⟨hS, q⟩ := hq
    obtain ⟨its, rl, pl, hz⟩ := I.list hS
    obtain ⟨⟨cls, dd, data, sl⟩, n, ho, hc, hd, hs⟩ := pl
    simp only at hc hd hs
    subst hc hd hs
    have hy : ys[i]? = some y := by
      have : (ys.drop i)[0]? = some y := by rw [← el]; rfl
      rwa [List.getElem?_drop] at this
    obtain ⟨u, hu, ry⟩ : ∃ u, its[i]? = some u ∧ RelV y u := rl.get hy
    have step := eqBool_itm (A := X.A.in1) (Q := fun z H' => if z = true then Q true H' else inW r X.K a ys b l H' Q) h hr.in1 rfl I ry (q.imp (fun q => ⟨q.1, by simpa using q.2⟩) id)
    have rec_ := fun H' s' I' => in_loop (a := a) (b := b) h hE hr Q hR l (i + 1) H' s' (by rw [← List.tail_drop, ← el]; rfl) I'
    obtain ⟨hp, g, d, tk, os⟩ := s
    wp_walk using AutoSeq1.wpAny_loadPart' ho
    have hi : its.toArray[((i : Nat) : Int).toNat]? = some u := by simpa using hu
    rw [hi]
    refine wpAny_bind (wpAny_mono step (fun z s' hz => ?_) hE)
    obtain ⟨H', I', qz⟩ := hz
    cases z with
    | true =>
      have hR' := hR true H' s' I' (by simpa using qz)
      obtain ⟨hp2, g2, d2, tk2, os2⟩ := s'
      wp_walk
      exact hR'
    | false =>
      have hrec := rec_ H' s' I' (by simpa using qz)
      have hc : ((i : Int) + 1) = ((i + 1 : Nat) : Int) := by omega
      obtain ⟨hp2, g2, d2, tk2, os2⟩ := s'
      wp_walk
      rw [hc]
      exact ⟨plainId_quiet MeetsSeq.plain_contains_loop _, codeAny_builtin MeetsSeq.entry_contains_loop (by
        rw [Around.under_plainId MeetsSeq.plain_contains_loop _]
        exact hrec)⟩
theorem op_inO {r : R2} (h : RcO X k r) (hr : Rm (k + 1) X.A) : OpR X (compareOp .In) (rInO r X.K) := by
  intro pins s σ H x y u v Q I rx ry hq
  obtain ⟨b, a, ys, rfl, rfl, hq⟩ := hq
  cases (show u = Value.ref b from rx)
  cases (show v = Value.ref a from ry)
  have hS : SqL X.K H a ys := by cases ys with | nil => exact hq.1 | cons _ _ => exact hq.1
  obtain ⟨its, rl, pl, hz⟩ := I.list hS
  obtain ⟨o, n, ho, hc, _⟩ := pl
  have hT : s.TypeIs (.ref a) "list" := ⟨_, ho, hc⟩
  show wpAny _ X.A (contains (.ref a) (.ref b) >>= fun z => pure (Value.bool z)) _ _ s
  refine wpAny_bind (wpAny_contains_slot hT PySem.F.slot_list_contains (wpAny_mono (Q := fun (v : Value) s' => ∃ z, v = Value.bool z ∧ EP X pins σ Q (Value.bool z) s') (GQ.call_here PySem.F.slot_list_contains hT PySem.F.entry_list_contains (PySem.F.args_list_contains_2 _ _) ?_) (fun v s' hv => ?_) fun _ _ e => e))
  · have hrec := in_loop h (R := wants (fun v s' => ∃ z, v = .bool z ∧ EP X pins σ Q (.bool z) s') X.xe) (fun e s' x => x) hr (fun b H' => Q (.bl b) H') (fun z H' s' I' q => ⟨z, rfl, .bl z, H', I', rfl, q⟩) ys 0 H s rfl I hq
    obtain ⟨hp, g, d, tk, os⟩ := s
    wp_walk
    exact ⟨plainId_quiet MeetsSeq.plain_contains_loop _, codeAny_builtin MeetsSeq.entry_contains_loop (by
      rw [Around.under_plainId MeetsSeq.plain_contains_loop _]
      exact hrec)⟩
  · obtain ⟨z, rfl, hq⟩ := hv
    exact wpAny_truthy_bool (wpAny_pure hq)
theorem rco_LK (K : PySem.W.Frag) (hm : Meth K C "__eq__" f) (F : Fc X.prog X.w K X.mg X.base k f [] sp) (h : X.K = K := by rfl) : RcO X k (rEqL K C sp) := by
  subst h
  exact rco_L hm F
theorem rco_RK (K : PySem.W.Frag) (nb : NoBase K C) (hm : Meth K C "__eq__" f) (F : Fc X.prog X.w K X.mg X.base k f [] sp) (h : X.K = K := by rfl) : RcO X k (rEqR K C sp) := by
  subst h
  exact rco_R nb hm F
theorem op_neOK (K : PySem.W.Frag) (nb : NoBase K C) (hm : Meth K C "__eq__" f) (F : Fc X.prog X.w K X.mg X.base k f [] sp) (hr : Rm (k + 1) X.A) (h : X.K = K := by rfl) : OpR X (compareOp .NotEq) (rNeL K C sp) := by
  subst h
  exact op_neO nb hm F hr
theorem op_inOK (K : PySem.W.Frag) {r : R2} (h : RcO X k r) (hr : Rm (k + 1) X.A) (e : X.K = K := by rfl) : OpR X (compareOp .In) (rInO r K) := by
  subst e
  exact op_inO h hr
end
end L3
set_option Elab.async false
set_option linter.all false
set_option maxRecDepth 100000
set_option maxHeartbeats 4000000
/-! what of the kit is wanted beside -/
namespace L3
open PySem PySem.Spec PyProof.Rows L2 PySem.SeqAt PySem.Calls
theorem room65 {k : Nat} {A : Around} (r : Room k A) : A.units + 65 < cLine := by have := r.un; omega
theorem call_isiK {X : Cx} (K : PySem.W.Frag) (h : X.K = K := by rfl) : CallR X (.builtin "isinstance") (rIsi K) := by
  subst h
  exact call_isi
theorem vals_refs : ∀ {as : List Addr} {us : List Value}, Vals (as.map V.ref) us → us = as.map Value.ref
  | [], _, .nil => rfl
  | a :: as, _ :: us, .cons r rs => by
    cases (show _ = Value.ref a from r)
    rw [vals_refs rs]
    rfl
/-- a != b, two lists of the same objects -/
def rNeI (K : PySem.W.Frag) : R2 := fun x y H Q => ∃ (a b : Addr) (as : List Addr), x = .ref a ∧ y = .ref b ∧ SqL K H a (as.map V.ref) ∧ SqL K H b (as.map V.ref) ∧ Q (.bl false) H
theorem op_neI {X : Cx} (hu : X.A.units + 64 < cLine) : OpR X (compareOp .NotEq) (rNeI X.K) := by
  intro pins s σ H x y v u Q I rx ry h
  obtain ⟨a, b, as, rfl, rfl, ha, hb, q⟩ := h
  cases (show v = Value.ref a from rx)
  cases (show u = Value.ref b from ry)
  obtain ⟨us, r1, p1, _⟩ := I.list ha
  obtain ⟨ws, r2, p2, _⟩ := I.list hb
  rw [vals_refs r1] at p1
  rw [vals_refs r2] at p2
  refine SeqAt.RcNeAt.lists (A := X.A) (e := fun _ => true) p1.isList p2.isList rfl (by omega) (fun j h1 h2 => SeqAt.EqAt.same _) X.prog X.w _ _ ?_
  rw [show ((List.range (as.map Value.ref).toArray.size).all fun _ => true) = true from List.all_eq_true.mpr fun _ _ => rfl]
  exact ⟨.bl false, H, I, rfl, q⟩
end L3
set_option Elab.async false
set_option linter.all false
set_option maxRecDepth 100000
set_option maxHeartbeats 4000000
namespace Toy
open PySem PySem.Spec PyProof.Rows L2 L3
def top (i : Nat) : Stmt := PySem.Challenge.pw_shortgoings_k21_times_over.main.body.getD i (.Pass ⟨0, 0, 0, 0⟩)
abbrev s_is_whole : Stmt := top 9
abbrev s_is_moment : Stmt := top 10
abbrev s_want_moment : Stmt := top 11
abbrev s_clock_of : Stmt := top 12
abbrev s_show_moment : Stmt := top 13
abbrev s_is_number : Stmt := top 18
abbrev s_Short_moments : Stmt := inClass (top 19) 0
abbrev s_Short_pieces : Stmt := inClass (top 19) 1
abbrev s_Short_begins : Stmt := inClass (top 19) 2
abbrev s_Short_ends : Stmt := inClass (top 19) 3
abbrev s_Short_means_many : Stmt := inClass (top 19) 4
abbrev s_Short_nested : Stmt := inClass (top 19) 5
abbrev s_all_rising : Stmt := top 20
abbrev s_shorts_in : Stmt := top 21
abbrev s_row_moments : Stmt := top 22
abbrev s_row_many : Stmt := top 23
abbrev s_row_pieces : Stmt := top 24
abbrev s_row_text : Stmt := top 25
abbrev s_At_init : Stmt := inClass (top 26) 0
abbrev s_At_moments : Stmt := inClass (top 26) 1
abbrev s_At_pieces : Stmt := inClass (top 26) 2
abbrev s_At_begins : Stmt := inClass (top 26) 3
abbrev s_At_ends : Stmt := inClass (top 26) 4
abbrev s_At_means_many : Stmt := inClass (top 26) 5
abbrev s_At_nested : Stmt := inClass (top 26) 6
abbrev s_At_str : Stmt := inClass (top 26) 7
abbrev s_Over_init : Stmt := inClass (top 27) 0
abbrev s_Over_parts : Stmt := inClass (top 27) 1
abbrev s_Over_moments : Stmt := inClass (top 27) 2
abbrev s_Over_pieces : Stmt := inClass (top 27) 3
abbrev s_Over_begins : Stmt := inClass (top 27) 4
abbrev s_Over_ends : Stmt := inClass (top 27) 5
abbrev s_Over_means_many : Stmt := inClass (top 27) 6
abbrev s_Over_nested : Stmt := inClass (top 27) 7
abbrev s_Over_str : Stmt := inClass (top 27) 8
abbrev s__law_pot : Stmt := top 29
abbrev s__law_draw : Stmt := top 30
abbrev s__law_near : Stmt := top 31
abbrev s__law_minutes : Stmt := top 32
abbrev s__law_over : Stmt := top 33
abbrev s__law_at_right : Stmt := top 34
abbrev s__law_told : Stmt := top 35
abbrev s__law_lists_right : Stmt := top 36
abbrev s__law_right : Stmt := top 37
abbrev s_law : Stmt := top 38
theorem sc_is_whole : FnScope ["thing"] ["thing"] (defScope s_is_whole) := ⟨rfl, rfl, rfl, by decide +kernel, rfl, by decide +kernel, by decide +kernel⟩
theorem sc_is_moment : FnScope ["thing"] ["thing"] (defScope s_is_moment) := ⟨rfl, rfl, rfl, by decide +kernel, rfl, by decide +kernel, by decide +kernel⟩
theorem sc_want_moment : FnScope ["thing"] ["thing"] (defScope s_want_moment) := ⟨rfl, rfl, rfl, by decide +kernel, rfl, by decide +kernel, by decide +kernel⟩
theorem sc_clock_of : FnScope ["moment"] ["moment"] (defScope s_clock_of) := ⟨rfl, rfl, rfl, by decide +kernel, rfl, by decide +kernel, by decide +kernel⟩
theorem sc_show_moment : FnScope ["moment", "day", "hour", "minute", "text"] ["moment"] (defScope s_show_moment) := ⟨rfl, rfl, rfl, by decide +kernel, rfl, by decide +kernel, by decide +kernel⟩
theorem sc_is_number : FnScope ["thing", "least"] ["thing", "least"] (defScope s_is_number) := ⟨rfl, rfl, rfl, by decide +kernel, rfl, by decide +kernel, by decide +kernel⟩
theorem sc_Short_moments : FnScope ["self"] ["self"] (defScope s_Short_moments) := ⟨rfl, rfl, rfl, by decide +kernel, rfl, by decide +kernel, by decide +kernel⟩
theorem sc_Short_pieces : FnScope ["self"] ["self"] (defScope s_Short_pieces) := ⟨rfl, rfl, rfl, by decide +kernel, rfl, by decide +kernel, by decide +kernel⟩
theorem sc_Short_begins : FnScope ["self"] ["self"] (defScope s_Short_begins) := ⟨rfl, rfl, rfl, by decide +kernel, rfl, by decide +kernel, by decide +kernel⟩
theorem sc_Short_ends : FnScope ["self"] ["self"] (defScope s_Short_ends) := ⟨rfl, rfl, rfl, by decide +kernel, rfl, by decide +kernel, by decide +kernel⟩
theorem sc_Short_means_many : FnScope ["self"] ["self"] (defScope s_Short_means_many) := ⟨rfl, rfl, rfl, by decide +kernel, rfl, by decide +kernel, by decide +kernel⟩
theorem sc_Short_nested : FnScope ["self"] ["self"] (defScope s_Short_nested) := ⟨rfl, rfl, rfl, by decide +kernel, rfl, by decide +kernel, by decide +kernel⟩
theorem sc_all_rising : FnScope ["parts", "one", "other"] ["parts"] (defScope s_all_rising) := ⟨rfl, rfl, rfl, by decide +kernel, rfl, by decide +kernel, by decide +kernel⟩
theorem sc_shorts_in : FnScope ["parts", "found", "one"] ["parts"] (defScope s_shorts_in) := ⟨rfl, rfl, rfl, by decide +kernel, rfl, by decide +kernel, by decide +kernel⟩
theorem sc_row_moments : FnScope ["parts", "found", "one"] ["parts"] (defScope s_row_moments) := ⟨rfl, rfl, rfl, by decide +kernel, rfl, by decide +kernel, by decide +kernel⟩
theorem sc_row_many : FnScope ["parts", "one"] ["parts"] (defScope s_row_many) := ⟨rfl, rfl, rfl, by decide +kernel, rfl, by decide +kernel, by decide +kernel⟩
theorem sc_row_pieces : FnScope ["parts", "one"] ["parts"] (defScope s_row_pieces) := ⟨rfl, rfl, rfl, by decide +kernel, rfl, by decide +kernel, by decide +kernel⟩
theorem sc_row_text : FnScope ["parts", "one"] ["parts"] (defScope s_row_text) := ⟨rfl, rfl, rfl, by decide +kernel, rfl, by decide +kernel, by decide +kernel⟩
theorem sc_At_init : FnScope ["self", "moment"] ["self", "moment"] (defScope s_At_init) := ⟨rfl, rfl, rfl, by decide +kernel, rfl, by decide +kernel, by decide +kernel⟩
theorem sc_At_moments : FnScope ["self"] ["self"] (defScope s_At_moments) := ⟨rfl, rfl, rfl, by decide +kernel, rfl, by decide +kernel, by decide +kernel⟩
theorem sc_At_pieces : FnScope ["self"] ["self"] (defScope s_At_pieces) := ⟨rfl, rfl, rfl, by decide +kernel, rfl, by decide +kernel, by decide +kernel⟩
theorem sc_At_begins : FnScope ["self"] ["self"] (defScope s_At_begins) := ⟨rfl, rfl, rfl, by decide +kernel, rfl, by decide +kernel, by decide +kernel⟩
theorem sc_At_ends : FnScope ["self"] ["self"] (defScope s_At_ends) := ⟨rfl, rfl, rfl, by decide +kernel, rfl, by decide +kernel, by decide +kernel⟩
theorem sc_At_means_many : FnScope ["self"] ["self"] (defScope s_At_means_many) := ⟨rfl, rfl, rfl, by decide +kernel, rfl, by decide +kernel, by decide +kernel⟩
theorem sc_At_nested : FnScope ["self"] ["self"] (defScope s_At_nested) := ⟨rfl, rfl, rfl, by decide +kernel, rfl, by decide +kernel, by decide +kernel⟩
theorem sc_At_str : FnScope ["self"] ["self"] (defScope s_At_str) := ⟨rfl, rfl, rfl, by decide +kernel, rfl, by decide +kernel, by decide +kernel⟩
theorem sc_Over_init : FnScope ["self", "parts", "many", "step"] ["self", "parts", "many", "step"] (defScope s_Over_init) := ⟨rfl, rfl, rfl, by decide +kernel, rfl, by decide +kernel, by decide +kernel⟩
theorem sc_Over_parts : FnScope ["self"] ["self"] (defScope s_Over_parts) := ⟨rfl, rfl, rfl, by decide +kernel, rfl, by decide +kernel, by decide +kernel⟩
theorem sc_Over_moments : FnScope ["self", "own", "found", "time", "moment"] ["self"] (defScope s_Over_moments) := ⟨rfl, rfl, rfl, by decide +kernel, rfl, by decide +kernel, by decide +kernel⟩
theorem sc_Over_pieces : FnScope ["self"] ["self"] (defScope s_Over_pieces) := ⟨rfl, rfl, rfl, by decide +kernel, rfl, by decide +kernel, by decide +kernel⟩
theorem sc_Over_begins : FnScope ["self"] ["self"] (defScope s_Over_begins) := ⟨rfl, rfl, rfl, by decide +kernel, rfl, by decide +kernel, by decide +kernel⟩
theorem sc_Over_ends : FnScope ["self"] ["self"] (defScope s_Over_ends) := ⟨rfl, rfl, rfl, by decide +kernel, rfl, by decide +kernel, by decide +kernel⟩
theorem sc_Over_means_many : FnScope ["self"] ["self"] (defScope s_Over_means_many) := ⟨rfl, rfl, rfl, by decide +kernel, rfl, by decide +kernel, by decide +kernel⟩
theorem sc_Over_nested : FnScope ["self", "one"] ["self"] (defScope s_Over_nested) := ⟨rfl, rfl, rfl, by decide +kernel, rfl, by decide +kernel, by decide +kernel⟩
theorem sc_Over_str : FnScope ["self"] ["self"] (defScope s_Over_str) := ⟨rfl, rfl, rfl, by decide +kernel, rfl, by decide +kernel, by decide +kernel⟩
theorem sc__law_pot : FnScope ["_law_script", "_law_k", "_law_cell"] ["_law_script", "_law_k"] (defScope s__law_pot) := ⟨rfl, rfl, rfl, by decide +kernel, rfl, by decide +kernel, by decide +kernel⟩
theorem sc__law_draw : FnScope ["_law_pot_here", "_law_room", "_law_digit"] ["_law_pot_here", "_law_room"] (defScope s__law_draw) := ⟨rfl, rfl, rfl, by decide +kernel, rfl, by decide +kernel, by decide +kernel⟩
theorem sc__law_near : FnScope ["_law_pot_here", "_law_way", "_law_found", "_law_k"] ["_law_pot_here"] (defScope s__law_near) := ⟨rfl, rfl, rfl, by decide +kernel, rfl, by decide +kernel, by decide +kernel⟩
theorem sc__law_minutes : FnScope ["_law_pot_here", "_law_found", "_law_here", "_law_k"] ["_law_pot_here"] (defScope s__law_minutes) := ⟨rfl, rfl, rfl, by decide +kernel, rfl, by decide +kernel, by decide +kernel⟩
theorem sc__law_over : FnScope ["_law_handed", "_law_times", "_law_later", "_law_way"] ["_law_handed", "_law_times", "_law_later", "_law_way"] (defScope s__law_over) := ⟨rfl, rfl, rfl, by decide +kernel, rfl, by decide +kernel, by decide +kernel⟩
theorem sc__law_at_right : FnScope ["_law_at", "_law_minute"] ["_law_at", "_law_minute"] (defScope s__law_at_right) := ⟨rfl, rfl, rfl, by decide +kernel, rfl, by decide +kernel, by decide +kernel⟩
theorem sc__law_told : FnScope ["_law_over_here", "_law_minutes_here", "_law_times", "_law_later"] ["_law_over_here", "_law_minutes_here", "_law_times", "_law_later"] (defScope s__law_told) := ⟨rfl, rfl, rfl, by decide +kernel, rfl, by decide +kernel, by decide +kernel⟩
theorem sc__law_lists_right : FnScope ["_law_over_here", "_law_minutes_here", "_law_due", "_law_handed", "_law_found", "_law_ats", "_law_one"] ["_law_over_here", "_law_minutes_here", "_law_due", "_law_handed"] (defScope s__law_lists_right) := ⟨rfl, rfl, rfl, by decide +kernel, rfl, by decide +kernel, by decide +kernel⟩
theorem sc__law_right : FnScope ["_law_pot_here", "_law_way", "_law_minutes_here", "_law_span", "_law_most", "_law_times", "_law_later", "_law_ats", "_law_handed", "_law_over_here", "_law_due", "_law_k", "_law_minute", "_law_at"] ["_law_pot_here"] (defScope s__law_right) := ⟨rfl, rfl, rfl, by decide +kernel, rfl, by decide +kernel, by decide +kernel⟩
theorem sc_law : FnScope ["_law_script", "_law_k"] ["_law_script"] (defScope s_law) := ⟨rfl, rfl, rfl, by decide +kernel, rfl, by decide +kernel, by decide +kernel⟩
structure Env (K : PySem.W.Frag) (mg : Str → Option Value) : Prop where
  g_is_whole : mg "is_whole" = some (.ref (He.ga K "is_whole"))
  g_is_moment : mg "is_moment" = some (.ref (He.ga K "is_moment"))
  g_want_moment : mg "want_moment" = some (.ref (He.ga K "want_moment"))
  g_clock_of : mg "clock_of" = some (.ref (He.ga K "clock_of"))
  g_show_moment : mg "show_moment" = some (.ref (He.ga K "show_moment"))
  g_is_number : mg "is_number" = some (.ref (He.ga K "is_number"))
  g_all_rising : mg "all_rising" = some (.ref (He.ga K "all_rising"))
  g_shorts_in : mg "shorts_in" = some (.ref (He.ga K "shorts_in"))
  g_row_moments : mg "row_moments" = some (.ref (He.ga K "row_moments"))
  g_row_many : mg "row_many" = some (.ref (He.ga K "row_many"))
  g_row_pieces : mg "row_pieces" = some (.ref (He.ga K "row_pieces"))
  g_row_text : mg "row_text" = some (.ref (He.ga K "row_text"))
  g__law_pot : mg "_law_pot" = some (.ref (He.ga K "_law_pot"))
  g__law_draw : mg "_law_draw" = some (.ref (He.ga K "_law_draw"))
  g__law_near : mg "_law_near" = some (.ref (He.ga K "_law_near"))
  g__law_minutes : mg "_law_minutes" = some (.ref (He.ga K "_law_minutes"))
  g__law_over : mg "_law_over" = some (.ref (He.ga K "_law_over"))
  g__law_at_right : mg "_law_at_right" = some (.ref (He.ga K "_law_at_right"))
  g__law_told : mg "_law_told" = some (.ref (He.ga K "_law_told"))
  g__law_lists_right : mg "_law_lists_right" = some (.ref (He.ga K "_law_lists_right"))
  g__law_right : mg "_law_right" = some (.ref (He.ga K "_law_right"))
  g_law : mg "law" = some (.ref (He.ga K "law"))
  v_HOUR : ∃ u, mg "HOUR" = some u ∧ RelV (.int (60)) u
  v_DAY : ∃ u, mg "DAY" = some u ∧ RelV (.int (1440)) u
  v_COLON : ∃ u, mg "COLON" = some u ∧ RelV (.str ":") u
  v_BLANK : ∃ u, mg "BLANK" = some u ∧ RelV (.str " ") u
  v_MOST_MOMENTS : ∃ u, mg "MOST_MOMENTS" = some u ∧ RelV (.int (1440)) u
  v_MOST_NESTED : ∃ u, mg "MOST_NESTED" = some u ∧ RelV (.int (8)) u
  v_NO_PARTS : ∃ u, mg "NO_PARTS" = some u ∧ RelV (.str "-") u
  n_all : mg "all" = none
  n_bool : mg "bool" = none
  n_divmod : mg "divmod" = none
  n_int : mg "int" = none
  n_isinstance : mg "isinstance" = none
  n_len : mg "len" = none
  n_list : mg "list" = none
  n_max : mg "max" = none
  n_min : mg "min" = none
  n_range : mg "range" = none
  n_repr : mg "repr" = none
  n_str : mg "str" = none
  n_sum : mg "sum" = none
  n_tuple : mg "tuple" = none
  n_zip : mg "zip" = none
  g_GoingError : mg "GoingError" = some (.ref (He.ga K "GoingError"))
  x_GoingError : Exo K (He.ga K "GoingError") bmV "ValueError.__new__"
  g_NoTime : mg "NoTime" = some (.ref (He.ga K "NoTime"))
  x_NoTime : Exo K (He.ga K "NoTime") bmV "ValueError.__new__"
  g_NoPiece : mg "NoPiece" = some (.ref (He.ga K "NoPiece"))
  x_NoPiece : Exo K (He.ga K "NoPiece") bmV "ValueError.__new__"
  g_Short : mg "Short" = some (.ref (He.ga K "Short"))
  g_At : mg "At" = some (.ref (He.ga K "At"))
  g_Over : mg "Over" = some (.ref (He.ga K "Over"))
  sys : SysK K
  c_Short : Cls K (He.ga K "Short")
  i_Short : InsC K (He.ga K "Short")
  m_Short_moments : Meth K (He.ga K "Short") "moments" (He.ma K (He.ga K "Short") "moments")
  m_Short_pieces : Meth K (He.ga K "Short") "pieces" (He.ma K (He.ga K "Short") "pieces")
  m_Short_begins : Meth K (He.ga K "Short") "begins" (He.ma K (He.ga K "Short") "begins")
  m_Short_ends : Meth K (He.ga K "Short") "ends" (He.ma K (He.ga K "Short") "ends")
  m_Short_means_many : Meth K (He.ga K "Short") "means_many" (He.ma K (He.ga K "Short") "means_many")
  m_Short_nested : Meth K (He.ga K "Short") "nested" (He.ma K (He.ga K "Short") "nested")
  kit_Short_Short : PySem.W.kitOne K (.ref (He.ga K "Short")) (.ref (He.ga K "Short")) = some true
  kit_Short_Over : PySem.W.kitOne K (.ref (He.ga K "Short")) (.ref (He.ga K "Over")) = some false
  kit_Short_At : PySem.W.kitOne K (.ref (He.ga K "Short")) (.ref (He.ga K "At")) = some false
  kit_Short_int : PySem.W.kitOne K (.ref (He.ga K "Short")) (.type "int") = some false
  kit_Short_bool : PySem.W.kitOne K (.ref (He.ga K "Short")) (.type "bool") = some false
  kit_Short_list : PySem.W.kitOne K (.ref (He.ga K "Short")) (.type "list") = some false
  kit_Short_tuple : PySem.W.kitOne K (.ref (He.ga K "Short")) (.type "tuple") = some false
  c_At : Cls K (He.ga K "At")
  i_At : InsC K (He.ga K "At")
  a_At_moment : NoAttr K (He.ga K "At") "moment"
  m_At_init : Meth K (He.ga K "At") "__init__" (He.ma K (He.ga K "At") "__init__")
  m_At_moments : Meth K (He.ga K "At") "moments" (He.ma K (He.ga K "At") "moments")
  m_At_pieces : Meth K (He.ga K "At") "pieces" (He.ma K (He.ga K "At") "pieces")
  m_At_begins : Meth K (He.ga K "At") "begins" (He.ma K (He.ga K "At") "begins")
  m_At_ends : Meth K (He.ga K "At") "ends" (He.ma K (He.ga K "At") "ends")
  m_At_means_many : Meth K (He.ga K "At") "means_many" (He.ma K (He.ga K "At") "means_many")
  m_At_nested : Meth K (He.ga K "At") "nested" (He.ma K (He.ga K "At") "nested")
  m_At_str : Meth K (He.ga K "At") "__str__" (He.ma K (He.ga K "At") "__str__")
  mk_At : Mk K (He.ga K "At") (He.ma K (He.ga K "At") "__init__")
  kit_At_Short : PySem.W.kitOne K (.ref (He.ga K "At")) (.ref (He.ga K "Short")) = some true
  kit_At_Over : PySem.W.kitOne K (.ref (He.ga K "At")) (.ref (He.ga K "Over")) = some false
  kit_At_At : PySem.W.kitOne K (.ref (He.ga K "At")) (.ref (He.ga K "At")) = some true
  kit_At_int : PySem.W.kitOne K (.ref (He.ga K "At")) (.type "int") = some false
  kit_At_bool : PySem.W.kitOne K (.ref (He.ga K "At")) (.type "bool") = some false
  kit_At_list : PySem.W.kitOne K (.ref (He.ga K "At")) (.type "list") = some false
  kit_At_tuple : PySem.W.kitOne K (.ref (He.ga K "At")) (.type "tuple") = some false
  c_Over : Cls K (He.ga K "Over")
  i_Over : InsC K (He.ga K "Over")
  a_Over_kept : NoAttr K (He.ga K "Over") "kept"
  a_Over_many : NoAttr K (He.ga K "Over") "many"
  a_Over_step : NoAttr K (He.ga K "Over") "step"
  m_Over_init : Meth K (He.ga K "Over") "__init__" (He.ma K (He.ga K "Over") "__init__")
  m_Over_parts : Meth K (He.ga K "Over") "parts" (He.ma K (He.ga K "Over") "parts")
  m_Over_moments : Meth K (He.ga K "Over") "moments" (He.ma K (He.ga K "Over") "moments")
  m_Over_pieces : Meth K (He.ga K "Over") "pieces" (He.ma K (He.ga K "Over") "pieces")
  m_Over_begins : Meth K (He.ga K "Over") "begins" (He.ma K (He.ga K "Over") "begins")
  m_Over_ends : Meth K (He.ga K "Over") "ends" (He.ma K (He.ga K "Over") "ends")
  m_Over_means_many : Meth K (He.ga K "Over") "means_many" (He.ma K (He.ga K "Over") "means_many")
  m_Over_nested : Meth K (He.ga K "Over") "nested" (He.ma K (He.ga K "Over") "nested")
  m_Over_str : Meth K (He.ga K "Over") "__str__" (He.ma K (He.ga K "Over") "__str__")
  mk_Over : Mk K (He.ga K "Over") (He.ma K (He.ga K "Over") "__init__")
  kit_Over_Short : PySem.W.kitOne K (.ref (He.ga K "Over")) (.ref (He.ga K "Short")) = some true
  kit_Over_Over : PySem.W.kitOne K (.ref (He.ga K "Over")) (.ref (He.ga K "Over")) = some true
  kit_Over_At : PySem.W.kitOne K (.ref (He.ga K "Over")) (.ref (He.ga K "At")) = some false
  kit_Over_int : PySem.W.kitOne K (.ref (He.ga K "Over")) (.type "int") = some false
  kit_Over_bool : PySem.W.kitOne K (.ref (He.ga K "Over")) (.type "bool") = some false
  kit_Over_list : PySem.W.kitOne K (.ref (He.ga K "Over")) (.type "list") = some false
  kit_Over_tuple : PySem.W.kitOne K (.ref (He.ga K "Over")) (.type "tuple") = some false
  kit_int_Short : PySem.W.kitOne K (.type "int") (.ref (He.ga K "Short")) = some false
  kit_bool_Short : PySem.W.kitOne K (.type "bool") (.ref (He.ga K "Short")) = some false
  kit_str_Short : PySem.W.kitOne K (.type "str") (.ref (He.ga K "Short")) = some false
  kit_NoneType_Short : PySem.W.kitOne K (.type "NoneType") (.ref (He.ga K "Short")) = some false
  kit_list_Short : PySem.W.kitOne K (.type "list") (.ref (He.ga K "Short")) = some false
  kit_tuple_Short : PySem.W.kitOne K (.type "tuple") (.ref (He.ga K "Short")) = some false
  kit_dict_Short : PySem.W.kitOne K (.type "dict") (.ref (He.ga K "Short")) = some false
  kit_int_Over : PySem.W.kitOne K (.type "int") (.ref (He.ga K "Over")) = some false
  kit_bool_Over : PySem.W.kitOne K (.type "bool") (.ref (He.ga K "Over")) = some false
  kit_str_Over : PySem.W.kitOne K (.type "str") (.ref (He.ga K "Over")) = some false
  kit_NoneType_Over : PySem.W.kitOne K (.type "NoneType") (.ref (He.ga K "Over")) = some false
  kit_list_Over : PySem.W.kitOne K (.type "list") (.ref (He.ga K "Over")) = some false
  kit_tuple_Over : PySem.W.kitOne K (.type "tuple") (.ref (He.ga K "Over")) = some false
  kit_dict_Over : PySem.W.kitOne K (.type "dict") (.ref (He.ga K "Over")) = some false
  kit_int_At : PySem.W.kitOne K (.type "int") (.ref (He.ga K "At")) = some false
  kit_bool_At : PySem.W.kitOne K (.type "bool") (.ref (He.ga K "At")) = some false
  kit_str_At : PySem.W.kitOne K (.type "str") (.ref (He.ga K "At")) = some false
  kit_NoneType_At : PySem.W.kitOne K (.type "NoneType") (.ref (He.ga K "At")) = some false
  kit_list_At : PySem.W.kitOne K (.type "list") (.ref (He.ga K "At")) = some false
  kit_tuple_At : PySem.W.kitOne K (.type "tuple") (.ref (He.ga K "At")) = some false
  kit_dict_At : PySem.W.kitOne K (.type "dict") (.ref (He.ga K "At")) = some false
  f_is_whole : ∃ fd, FunD K "is_whole" "is_whole" (defArgs s_is_whole) (defBody s_is_whole) (defScope s_is_whole) [] [] (He.ga K "is_whole") fd
  f_is_moment : ∃ fd, FunD K "is_moment" "is_moment" (defArgs s_is_moment) (defBody s_is_moment) (defScope s_is_moment) [] [] (He.ga K "is_moment") fd
  f_want_moment : ∃ fd, FunD K "want_moment" "want_moment" (defArgs s_want_moment) (defBody s_want_moment) (defScope s_want_moment) [] [] (He.ga K "want_moment") fd
  f_clock_of : ∃ fd, FunD K "clock_of" "clock_of" (defArgs s_clock_of) (defBody s_clock_of) (defScope s_clock_of) [] [] (He.ga K "clock_of") fd
  f_show_moment : ∃ fd, FunD K "show_moment" "show_moment" (defArgs s_show_moment) (defBody s_show_moment) (defScope s_show_moment) [] [] (He.ga K "show_moment") fd
  f_is_number : ∃ fd, FunD K "is_number" "is_number" (defArgs s_is_number) (defBody s_is_number) (defScope s_is_number) [] [] (He.ga K "is_number") fd
  f_Short_moments : ∃ fd, FunD K "moments" "Short.moments" (defArgs s_Short_moments) (defBody s_Short_moments) (defScope s_Short_moments) [] [] (He.ma K (He.ga K "Short") "moments") fd
  f_Short_pieces : ∃ fd, FunD K "pieces" "Short.pieces" (defArgs s_Short_pieces) (defBody s_Short_pieces) (defScope s_Short_pieces) [] [] (He.ma K (He.ga K "Short") "pieces") fd
  f_Short_begins : ∃ fd, FunD K "begins" "Short.begins" (defArgs s_Short_begins) (defBody s_Short_begins) (defScope s_Short_begins) [] [] (He.ma K (He.ga K "Short") "begins") fd
  f_Short_ends : ∃ fd, FunD K "ends" "Short.ends" (defArgs s_Short_ends) (defBody s_Short_ends) (defScope s_Short_ends) [] [] (He.ma K (He.ga K "Short") "ends") fd
  f_Short_means_many : ∃ fd, FunD K "means_many" "Short.means_many" (defArgs s_Short_means_many) (defBody s_Short_means_many) (defScope s_Short_means_many) [] [] (He.ma K (He.ga K "Short") "means_many") fd
  f_Short_nested : ∃ fd, FunD K "nested" "Short.nested" (defArgs s_Short_nested) (defBody s_Short_nested) (defScope s_Short_nested) [] [] (He.ma K (He.ga K "Short") "nested") fd
  f_all_rising : ∃ fd, FunD K "all_rising" "all_rising" (defArgs s_all_rising) (defBody s_all_rising) (defScope s_all_rising) [] [] (He.ga K "all_rising") fd
  f_shorts_in : ∃ fd, FunD K "shorts_in" "shorts_in" (defArgs s_shorts_in) (defBody s_shorts_in) (defScope s_shorts_in) [] [] (He.ga K "shorts_in") fd
  f_row_moments : ∃ fd, FunD K "row_moments" "row_moments" (defArgs s_row_moments) (defBody s_row_moments) (defScope s_row_moments) [] [] (He.ga K "row_moments") fd
  f_row_many : ∃ fd, FunD K "row_many" "row_many" (defArgs s_row_many) (defBody s_row_many) (defScope s_row_many) [] [] (He.ga K "row_many") fd
  f_row_pieces : ∃ fd, FunD K "row_pieces" "row_pieces" (defArgs s_row_pieces) (defBody s_row_pieces) (defScope s_row_pieces) [] [] (He.ga K "row_pieces") fd
  f_row_text : ∃ fd, FunD K "row_text" "row_text" (defArgs s_row_text) (defBody s_row_text) (defScope s_row_text) [] [] (He.ga K "row_text") fd
  f_At_init : ∃ fd, FunD K "__init__" "At.__init__" (defArgs s_At_init) (defBody s_At_init) (defScope s_At_init) [] [] (He.ma K (He.ga K "At") "__init__") fd
  f_At_moments : ∃ fd, FunD K "moments" "At.moments" (defArgs s_At_moments) (defBody s_At_moments) (defScope s_At_moments) [] [] (He.ma K (He.ga K "At") "moments") fd
  f_At_pieces : ∃ fd, FunD K "pieces" "At.pieces" (defArgs s_At_pieces) (defBody s_At_pieces) (defScope s_At_pieces) [] [] (He.ma K (He.ga K "At") "pieces") fd
  f_At_begins : ∃ fd, FunD K "begins" "At.begins" (defArgs s_At_begins) (defBody s_At_begins) (defScope s_At_begins) [] [] (He.ma K (He.ga K "At") "begins") fd
  f_At_ends : ∃ fd, FunD K "ends" "At.ends" (defArgs s_At_ends) (defBody s_At_ends) (defScope s_At_ends) [] [] (He.ma K (He.ga K "At") "ends") fd
  f_At_means_many : ∃ fd, FunD K "means_many" "At.means_many" (defArgs s_At_means_many) (defBody s_At_means_many) (defScope s_At_means_many) [] [] (He.ma K (He.ga K "At") "means_many") fd
  f_At_nested : ∃ fd, FunD K "nested" "At.nested" (defArgs s_At_nested) (defBody s_At_nested) (defScope s_At_nested) [] [] (He.ma K (He.ga K "At") "nested") fd
  f_At_str : ∃ fd, FunD K "__str__" "At.__str__" (defArgs s_At_str) (defBody s_At_str) (defScope s_At_str) [] [] (He.ma K (He.ga K "At") "__str__") fd
  f_Over_init : ∃ fd, FunD K "__init__" "Over.__init__" (defArgs s_Over_init) (defBody s_Over_init) (defScope s_Over_init) [.int (2), .int (60)] [] (He.ma K (He.ga K "Over") "__init__") fd
  f_Over_parts : ∃ fd, FunD K "parts" "Over.parts" (defArgs s_Over_parts) (defBody s_Over_parts) (defScope s_Over_parts) [] [] (He.ma K (He.ga K "Over") "parts") fd
  f_Over_moments : ∃ fd, FunD K "moments" "Over.moments" (defArgs s_Over_moments) (defBody s_Over_moments) (defScope s_Over_moments) [] [] (He.ma K (He.ga K "Over") "moments") fd
  f_Over_pieces : ∃ fd, FunD K "pieces" "Over.pieces" (defArgs s_Over_pieces) (defBody s_Over_pieces) (defScope s_Over_pieces) [] [] (He.ma K (He.ga K "Over") "pieces") fd
  f_Over_begins : ∃ fd, FunD K "begins" "Over.begins" (defArgs s_Over_begins) (defBody s_Over_begins) (defScope s_Over_begins) [] [] (He.ma K (He.ga K "Over") "begins") fd
  f_Over_ends : ∃ fd, FunD K "ends" "Over.ends" (defArgs s_Over_ends) (defBody s_Over_ends) (defScope s_Over_ends) [] [] (He.ma K (He.ga K "Over") "ends") fd
  f_Over_means_many : ∃ fd, FunD K "means_many" "Over.means_many" (defArgs s_Over_means_many) (defBody s_Over_means_many) (defScope s_Over_means_many) [] [] (He.ma K (He.ga K "Over") "means_many") fd
  f_Over_nested : ∃ fd, FunD K "nested" "Over.nested" (defArgs s_Over_nested) (defBody s_Over_nested) (defScope s_Over_nested) [] [] (He.ma K (He.ga K "Over") "nested") fd
  f_Over_str : ∃ fd, FunD K "__str__" "Over.__str__" (defArgs s_Over_str) (defBody s_Over_str) (defScope s_Over_str) [] [] (He.ma K (He.ga K "Over") "__str__") fd
  f__law_pot : ∃ fd, FunD K "_law_pot" "_law_pot" (defArgs s__law_pot) (defBody s__law_pot) (defScope s__law_pot) [] [] (He.ga K "_law_pot") fd
  f__law_draw : ∃ fd, FunD K "_law_draw" "_law_draw" (defArgs s__law_draw) (defBody s__law_draw) (defScope s__law_draw) [] [] (He.ga K "_law_draw") fd
  f__law_near : ∃ fd, FunD K "_law_near" "_law_near" (defArgs s__law_near) (defBody s__law_near) (defScope s__law_near) [] [] (He.ga K "_law_near") fd
  f__law_minutes : ∃ fd, FunD K "_law_minutes" "_law_minutes" (defArgs s__law_minutes) (defBody s__law_minutes) (defScope s__law_minutes) [] [] (He.ga K "_law_minutes") fd
  f__law_over : ∃ fd, FunD K "_law_over" "_law_over" (defArgs s__law_over) (defBody s__law_over) (defScope s__law_over) [] [] (He.ga K "_law_over") fd
  f__law_at_right : ∃ fd, FunD K "_law_at_right" "_law_at_right" (defArgs s__law_at_right) (defBody s__law_at_right) (defScope s__law_at_right) [] [] (He.ga K "_law_at_right") fd
  f__law_told : ∃ fd, FunD K "_law_told" "_law_told" (defArgs s__law_told) (defBody s__law_told) (defScope s__law_told) [] [] (He.ga K "_law_told") fd
  f__law_lists_right : ∃ fd, FunD K "_law_lists_right" "_law_lists_right" (defArgs s__law_lists_right) (defBody s__law_lists_right) (defScope s__law_lists_right) [] [] (He.ga K "_law_lists_right") fd
  f__law_right : ∃ fd, FunD K "_law_right" "_law_right" (defArgs s__law_right) (defBody s__law_right) (defScope s__law_right) [] [] (He.ga K "_law_right") fd
  f_law : ∃ fd, FunD K "law" "law" (defArgs s_law) (defBody s_law) (defScope s_law) [] [] (He.ga K "law") fd
end Toy
namespace Toy
open PySem PySem.Spec PyProof.Rows L2 L3
theorem Env.k_is_whole {K : PySem.W.Frag} {mg : Str → Option Value} (T : Env K mg) : PySem.W.keepIn K (.ref (He.ga K "is_whole")) = true := let ⟨_, F⟩ := T.f_is_whole; F.kp
theorem Env.k_is_moment {K : PySem.W.Frag} {mg : Str → Option Value} (T : Env K mg) : PySem.W.keepIn K (.ref (He.ga K "is_moment")) = true := let ⟨_, F⟩ := T.f_is_moment; F.kp
theorem Env.k_want_moment {K : PySem.W.Frag} {mg : Str → Option Value} (T : Env K mg) : PySem.W.keepIn K (.ref (He.ga K "want_moment")) = true := let ⟨_, F⟩ := T.f_want_moment; F.kp
theorem Env.k_clock_of {K : PySem.W.Frag} {mg : Str → Option Value} (T : Env K mg) : PySem.W.keepIn K (.ref (He.ga K "clock_of")) = true := let ⟨_, F⟩ := T.f_clock_of; F.kp
theorem Env.k_show_moment {K : PySem.W.Frag} {mg : Str → Option Value} (T : Env K mg) : PySem.W.keepIn K (.ref (He.ga K "show_moment")) = true := let ⟨_, F⟩ := T.f_show_moment; F.kp
theorem Env.k_is_number {K : PySem.W.Frag} {mg : Str → Option Value} (T : Env K mg) : PySem.W.keepIn K (.ref (He.ga K "is_number")) = true := let ⟨_, F⟩ := T.f_is_number; F.kp
theorem Env.k_Short_moments {K : PySem.W.Frag} {mg : Str → Option Value} (T : Env K mg) : PySem.W.keepIn K (.ref (He.ma K (He.ga K "Short") "moments")) = true := let ⟨_, F⟩ := T.f_Short_moments; F.kp
theorem Env.k_Short_pieces {K : PySem.W.Frag} {mg : Str → Option Value} (T : Env K mg) : PySem.W.keepIn K (.ref (He.ma K (He.ga K "Short") "pieces")) = true := let ⟨_, F⟩ := T.f_Short_pieces; F.kp
theorem Env.k_Short_begins {K : PySem.W.Frag} {mg : Str → Option Value} (T : Env K mg) : PySem.W.keepIn K (.ref (He.ma K (He.ga K "Short") "begins")) = true := let ⟨_, F⟩ := T.f_Short_begins; F.kp
theorem Env.k_Short_ends {K : PySem.W.Frag} {mg : Str → Option Value} (T : Env K mg) : PySem.W.keepIn K (.ref (He.ma K (He.ga K "Short") "ends")) = true := let ⟨_, F⟩ := T.f_Short_ends; F.kp
theorem Env.k_Short_means_many {K : PySem.W.Frag} {mg : Str → Option Value} (T : Env K mg) : PySem.W.keepIn K (.ref (He.ma K (He.ga K "Short") "means_many")) = true := let ⟨_, F⟩ := T.f_Short_means_many; F.kp
theorem Env.k_Short_nested {K : PySem.W.Frag} {mg : Str → Option Value} (T : Env K mg) : PySem.W.keepIn K (.ref (He.ma K (He.ga K "Short") "nested")) = true := let ⟨_, F⟩ := T.f_Short_nested; F.kp
theorem Env.k_all_rising {K : PySem.W.Frag} {mg : Str → Option Value} (T : Env K mg) : PySem.W.keepIn K (.ref (He.ga K "all_rising")) = true := let ⟨_, F⟩ := T.f_all_rising; F.kp
theorem Env.k_shorts_in {K : PySem.W.Frag} {mg : Str → Option Value} (T : Env K mg) : PySem.W.keepIn K (.ref (He.ga K "shorts_in")) = true := let ⟨_, F⟩ := T.f_shorts_in; F.kp
theorem Env.k_row_moments {K : PySem.W.Frag} {mg : Str → Option Value} (T : Env K mg) : PySem.W.keepIn K (.ref (He.ga K "row_moments")) = true := let ⟨_, F⟩ := T.f_row_moments; F.kp
theorem Env.k_row_many {K : PySem.W.Frag} {mg : Str → Option Value} (T : Env K mg) : PySem.W.keepIn K (.ref (He.ga K "row_many")) = true := let ⟨_, F⟩ := T.f_row_many; F.kp
theorem Env.k_row_pieces {K : PySem.W.Frag} {mg : Str → Option Value} (T : Env K mg) : PySem.W.keepIn K (.ref (He.ga K "row_pieces")) = true := let ⟨_, F⟩ := T.f_row_pieces; F.kp
theorem Env.k_row_text {K : PySem.W.Frag} {mg : Str → Option Value} (T : Env K mg) : PySem.W.keepIn K (.ref (He.ga K "row_text")) = true := let ⟨_, F⟩ := T.f_row_text; F.kp
theorem Env.k_At_init {K : PySem.W.Frag} {mg : Str → Option Value} (T : Env K mg) : PySem.W.keepIn K (.ref (He.ma K (He.ga K "At") "__init__")) = true := let ⟨_, F⟩ := T.f_At_init; F.kp
theorem Env.k_At_moments {K : PySem.W.Frag} {mg : Str → Option Value} (T : Env K mg) : PySem.W.keepIn K (.ref (He.ma K (He.ga K "At") "moments")) = true := let ⟨_, F⟩ := T.f_At_moments; F.kp
theorem Env.k_At_pieces {K : PySem.W.Frag} {mg : Str → Option Value} (T : Env K mg) : PySem.W.keepIn K (.ref (He.ma K (He.ga K "At") "pieces")) = true := let ⟨_, F⟩ := T.f_At_pieces; F.kp
theorem Env.k_At_begins {K : PySem.W.Frag} {mg : Str → Option Value} (T : Env K mg) : PySem.W.keepIn K (.ref (He.ma K (He.ga K "At") "begins")) = true := let ⟨_, F⟩ := T.f_At_begins; F.kp
theorem Env.k_At_ends {K : PySem.W.Frag} {mg : Str → Option Value} (T : Env K mg) : PySem.W.keepIn K (.ref (He.ma K (He.ga K "At") "ends")) = true := let ⟨_, F⟩ := T.f_At_ends; F.kp
theorem Env.k_At_means_many {K : PySem.W.Frag} {mg : Str → Option Value} (T : Env K mg) : PySem.W.keepIn K (.ref (He.ma K (He.ga K "At") "means_many")) = true := let ⟨_, F⟩ := T.f_At_means_many; F.kp
theorem Env.k_At_nested {K : PySem.W.Frag} {mg : Str → Option Value} (T : Env K mg) : PySem.W.keepIn K (.ref (He.ma K (He.ga K "At") "nested")) = true := let ⟨_, F⟩ := T.f_At_nested; F.kp
theorem Env.k_At_str {K : PySem.W.Frag} {mg : Str → Option Value} (T : Env K mg) : PySem.W.keepIn K (.ref (He.ma K (He.ga K "At") "__str__")) = true := let ⟨_, F⟩ := T.f_At_str; F.kp
theorem Env.k_Over_init {K : PySem.W.Frag} {mg : Str → Option Value} (T : Env K mg) : PySem.W.keepIn K (.ref (He.ma K (He.ga K "Over") "__init__")) = true := let ⟨_, F⟩ := T.f_Over_init; F.kp
theorem Env.k_Over_parts {K : PySem.W.Frag} {mg : Str → Option Value} (T : Env K mg) : PySem.W.keepIn K (.ref (He.ma K (He.ga K "Over") "parts")) = true := let ⟨_, F⟩ := T.f_Over_parts; F.kp
theorem Env.k_Over_moments {K : PySem.W.Frag} {mg : Str → Option Value} (T : Env K mg) : PySem.W.keepIn K (.ref (He.ma K (He.ga K "Over") "moments")) = true := let ⟨_, F⟩ := T.f_Over_moments; F.kp
theorem Env.k_Over_pieces {K : PySem.W.Frag} {mg : Str → Option Value} (T : Env K mg) : PySem.W.keepIn K (.ref (He.ma K (He.ga K "Over") "pieces")) = true := let ⟨_, F⟩ := T.f_Over_pieces; F.kp
theorem Env.k_Over_begins {K : PySem.W.Frag} {mg : Str → Option Value} (T : Env K mg) : PySem.W.keepIn K (.ref (He.ma K (He.ga K "Over") "begins")) = true := let ⟨_, F⟩ := T.f_Over_begins; F.kp
theorem Env.k_Over_ends {K : PySem.W.Frag} {mg : Str → Option Value} (T : Env K mg) : PySem.W.keepIn K (.ref (He.ma K (He.ga K "Over") "ends")) = true := let ⟨_, F⟩ := T.f_Over_ends; F.kp
theorem Env.k_Over_means_many {K : PySem.W.Frag} {mg : Str → Option Value} (T : Env K mg) : PySem.W.keepIn K (.ref (He.ma K (He.ga K "Over") "means_many")) = true := let ⟨_, F⟩ := T.f_Over_means_many; F.kp
theorem Env.k_Over_nested {K : PySem.W.Frag} {mg : Str → Option Value} (T : Env K mg) : PySem.W.keepIn K (.ref (He.ma K (He.ga K "Over") "nested")) = true := let ⟨_, F⟩ := T.f_Over_nested; F.kp
theorem Env.k_Over_str {K : PySem.W.Frag} {mg : Str → Option Value} (T : Env K mg) : PySem.W.keepIn K (.ref (He.ma K (He.ga K "Over") "__str__")) = true := let ⟨_, F⟩ := T.f_Over_str; F.kp
theorem Env.k__law_pot {K : PySem.W.Frag} {mg : Str → Option Value} (T : Env K mg) : PySem.W.keepIn K (.ref (He.ga K "_law_pot")) = true := let ⟨_, F⟩ := T.f__law_pot; F.kp
theorem Env.k__law_draw {K : PySem.W.Frag} {mg : Str → Option Value} (T : Env K mg) : PySem.W.keepIn K (.ref (He.ga K "_law_draw")) = true := let ⟨_, F⟩ := T.f__law_draw; F.kp
theorem Env.k__law_near {K : PySem.W.Frag} {mg : Str → Option Value} (T : Env K mg) : PySem.W.keepIn K (.ref (He.ga K "_law_near")) = true := let ⟨_, F⟩ := T.f__law_near; F.kp
theorem Env.k__law_minutes {K : PySem.W.Frag} {mg : Str → Option Value} (T : Env K mg) : PySem.W.keepIn K (.ref (He.ga K "_law_minutes")) = true := let ⟨_, F⟩ := T.f__law_minutes; F.kp
theorem Env.k__law_over {K : PySem.W.Frag} {mg : Str → Option Value} (T : Env K mg) : PySem.W.keepIn K (.ref (He.ga K "_law_over")) = true := let ⟨_, F⟩ := T.f__law_over; F.kp
theorem Env.k__law_at_right {K : PySem.W.Frag} {mg : Str → Option Value} (T : Env K mg) : PySem.W.keepIn K (.ref (He.ga K "_law_at_right")) = true := let ⟨_, F⟩ := T.f__law_at_right; F.kp
theorem Env.k__law_told {K : PySem.W.Frag} {mg : Str → Option Value} (T : Env K mg) : PySem.W.keepIn K (.ref (He.ga K "_law_told")) = true := let ⟨_, F⟩ := T.f__law_told; F.kp
theorem Env.k__law_lists_right {K : PySem.W.Frag} {mg : Str → Option Value} (T : Env K mg) : PySem.W.keepIn K (.ref (He.ga K "_law_lists_right")) = true := let ⟨_, F⟩ := T.f__law_lists_right; F.kp
theorem Env.k__law_right {K : PySem.W.Frag} {mg : Str → Option Value} (T : Env K mg) : PySem.W.keepIn K (.ref (He.ga K "_law_right")) = true := let ⟨_, F⟩ := T.f__law_right; F.kp
theorem Env.k_law {K : PySem.W.Frag} {mg : Str → Option Value} (T : Env K mg) : PySem.W.keepIn K (.ref (He.ga K "law")) = true := let ⟨_, F⟩ := T.f_law; F.kp
section
def isN (n : Int) (x : V) : Bool := isW x && (match x with | .int i => decide (n ≤ i) | _ => false)
def sp_is_number (K : PySem.W.Frag) : Sp := fun vs H Q _ => ∃ x n, vs = [x, .int n] ∧ Cl K H x ∧ Q (.bl (isN n x)) H
theorem fb_is_number {P : Program} {w : World} {K : PySem.W.Frag} {mg : Str → Option Value} {base : Heap} (T : Env K mg) : ∃ fd, FunD K "is_number" "is_number" (defArgs s_is_number) (defBody s_is_number) (defScope s_is_number) [] [] (He.ga K "is_number") fd ∧ Fb P w K mg base 1 (He.ga K "is_number") fd ["thing", "least"] (sp_is_number K) := by
  obtain ⟨fd, F⟩ := T.f_is_number
  refine ⟨fd, F, fb_of F sc_is_number (fun vs H Q E h => ?_) (fun cdv A outer s H vs Q E hr h => ?_)⟩
  · obtain ⟨x, n, rfl, _⟩ := h
    rfl
  · obtain ⟨x, n, rfl, ⟨t, b, c, ty, h1, h2, e⟩, q⟩ := h
    refine ⟨_, (pss_one (ps_ret (pe_and (pe_callB call_isi (by rfl) T.n_isinstance (by decide +kernel) (pa_cons (pv 0) (pa_cons (pe_bltn (v := .ty "int") (by rfl) T.n_int (by decide +kernel) rfl) pa_nil))) (pe_and (pe_not (pe_callB call_isi (by rfl) T.n_isinstance (by decide +kernel) (pa_cons (pv 0) (pa_cons (pe_bltn (v := .ty "bool") (by rfl) T.n_bool (by decide +kernel) rfl) pa_nil)))) (pe_one (pe_cmpR op_ge (pv 0) (pv 1) (nomark _))))))), ?_⟩
    refine ⟨x, rfl, x, .ty "int", t, _, b, rfl, .ty "int", ty, h1, b, rfl, ?_⟩
    unfold isN at q
    rw [e] at q
    cases b with
    | false => exact q
    | true =>
      refine ⟨x, rfl, x, .ty "bool", t, _, c, rfl, .ty "bool", ty, h2, c, rfl, ?_⟩
      cases c with
      | true => exact ⟨false, rfl, q⟩
      | false =>
        refine ⟨true, rfl, iteT ?_⟩
        cases x with
        | int i => exact ⟨_, rfl, _, rfl, i, n, rfl, rfl, q⟩
        | _ => cases e

theorem ok_is_number {P : Program} {w : World} {K : PySem.W.Frag} {mg : Str → Option Value} {base : Heap} (T : Env K mg) : Fc P w K mg base 1 (He.ga K "is_number") [] (sp_is_number K) := by
  obtain ⟨fd, D, F⟩ := fb_is_number T
  exact F.all (D.bindsN fun _ _ _ _ _ _ us hl => match us, hl with | [_, _], _ => rfl)
end
section
theorem ex_made {H : Hp} {x dx : Addr} {o1 o2 : HO} (nx : H x = none) (nd : H dx = none) (ne : dx ≠ x) : Ex H (upd (upd H dx o1) x o2) := fun b o e => by
  rw [upd_ne (ne_of_none e nx), upd_ne (ne_of_none e nd)]
  exact e

end
section
abbrev AtC (K : PySem.W.Frag) : Addr := He.ga K "At"
/-- at a an At of a moment -/
def AtAt (K : PySem.W.Frag) (H : Hp) (a : Addr) (n : Nat) : Prop := ∃ dx, H a = some (.ins (AtC K) dx [("moment", .int (n : Nat))])
theorem AtAt.mono {K : PySem.W.Frag} {H H' : Hp} {a : Addr} {n : Nat} (h : AtAt K H a n) (e : Ex H H') : AtAt K H' a n := let ⟨dx, h⟩ := h; ⟨dx, e _ _ h⟩
def sp_At_init (K : PySem.W.Frag) : Sp := fun vs H Q E => ∃ a dx x, vs = [.ref a, x] ∧ H a = some (.ins (AtC K) dx []) ∧ Cl K H x ∧ (isN 0 x = true → Q .non (upd H a (.ins (AtC K) dx [("moment", x)]))) ∧ (isN 0 x = false → E (.ref (He.ga K "NoPiece")) none H)
theorem fb_At_init {P : Program} {w : World} {K : PySem.W.Frag} {mg : Str → Option Value} {base : Heap} (T : Env K mg) : ∃ fd, FunD K "__init__" "At.__init__" (defArgs s_At_init) (defBody s_At_init) (defScope s_At_init) [] [] (He.ma K (He.ga K "At") "__init__") fd ∧ Fb P w K mg base 2 (He.ma K (He.ga K "At") "__init__") fd ["self", "moment"] (sp_At_init K) := by
  obtain ⟨fd, F⟩ := T.f_At_init
  refine ⟨fd, F, fb_of F sc_At_init (fun vs H Q E h => ?_) (fun cdv A outer s H vs Q E hr h => ?_)⟩
  · obtain ⟨a, dx, x, rfl, _⟩ := h
    rfl
  · obtain ⟨a, dx, x, rfl, ha, cl, q, qe⟩ := h
    refine ⟨_, (pss_cons (ps_if (pt_not (pt_val (c_call (ok_is_number T) (hr.mono (by decide)) T.g_is_number T.k_is_number (takes_of rfl rfl rfl rfl) (pa_cons (pv 1) (pa_cons pe_int pa_nil)))))
      (pss_one (ps_raise rfl (takes_of rfl rfl rfl rfl) (pmk_own PySem.F.excBase_ValueError T.x_NoPiece.x T.g_NoPiece T.x_NoPiece.kp (raises_own T.x_NoPiece.sub T.x_NoPiece.ty) rfl)))
      pss_nil)
      (pss_one (ps_fld (pv 0) (pv 1) rfl))), ?_⟩
    refine ⟨_, rfl, x, 0, rfl, cl, _, rfl, ?_⟩
    cases e : isN 0 x with
    | false => exact qe e
    | true =>
      refine iteF ?_
      refine ⟨_, rfl, _, rfl, a, _, dx, [], rfl, ha, T.c_At, T.a_At_moment, by decide, ?_⟩
      exact q e
theorem isN_nat {n m : Nat} (h : m ≤ n) : isN (m : Int) (.int (n : Nat)) = true := by
  show (true && decide ((m : Int) ≤ (n : Int))) = true
  rw [decide_eq_true (by omega)]
  rfl
theorem at_new {K : PySem.W.Frag} {H : Hp} {x dx : Addr} {n : Nat} {Q : VK} {E : XK} (nx : H x = none) (nd : H dx = none) (ne : dx ≠ x) (q : ∀ H', Ex H H' → AtAt K H' x n → Q .non H') :
    sp_At_init K [.ref x, .int (n : Nat)] (upd (upd H dx (.own x)) x (.ins (AtC K) dx [])) Q E := by
  refine ⟨x, dx, _, rfl, upd_same, cl_int _, fun _ => q _ ?_ ⟨dx, upd_same⟩, fun z => ?_⟩
  · exact ex_mut (ex_made nx nd ne) nx
  · rw [show isN 0 (.int (n : Nat)) = true from isN_nat (m := 0) (Nat.zero_le _)] at z
    cases z

theorem ok_At_init {P : Program} {w : World} {K : PySem.W.Frag} {mg : Str → Option Value} {base : Heap} (T : Env K mg) : Fc P w K mg base 2 (He.ma K (He.ga K "At") "__init__") [] (sp_At_init K) := by
  obtain ⟨fd, D, F⟩ := fb_At_init T
  exact F.all (D.bindsN fun _ _ _ _ _ _ us hl => match us, hl with | [_, _], _ => rfl)
theorem ok_At_init_1_moment {P : Program} {w : World} {K : PySem.W.Frag} {mg : Str → Option Value} {base : Heap} (T : Env K mg) : Fc P w K mg base 2 (He.ma K (He.ga K "At") "__init__") ["moment"] (fun vs H Q E => vs.length = 1 + (["moment"] : List Str).length ∧ sp_At_init K (pick [.inl 0, .inl 1] vs []) H Q E) := by
  obtain ⟨fd, D, F⟩ := fb_At_init T
  exact Fb.names D F 1 ["moment"] (fun us => pick [.inl 0, .inl 1] us []) (fun r1 => pick_vals _ r1 .nil) (fun kV doc pm an cdv ct us ws h1 h2 => match us, ws, h1, h2 with | [_], [_], _, _ => rfl)
end
section
def sp_At_ends (K : PySem.W.Frag) : Sp := fun vs H Q _ => ∃ a n, vs = [.ref a] ∧ AtAt K H a n ∧ Q (.int (n : Nat)) H
theorem fb_At_ends {P : Program} {w : World} {K : PySem.W.Frag} {mg : Str → Option Value} {base : Heap} (T : Env K mg) : ∃ fd, FunD K "ends" "At.ends" (defArgs s_At_ends) (defBody s_At_ends) (defScope s_At_ends) [] [] (He.ma K (He.ga K "At") "ends") fd ∧ Fb P w K mg base 1 (He.ma K (He.ga K "At") "ends") fd ["self"] (sp_At_ends K) := by
  obtain ⟨fd, F⟩ := T.f_At_ends
  refine ⟨fd, F, fb_of F sc_At_ends (fun vs H Q E h => ?_) (fun cdv A outer s H vs Q E hr h => ?_)⟩
  · obtain ⟨a, n, rfl, _⟩ := h
    rfl
  · obtain ⟨a, n, rfl, ⟨dx, ha⟩, q⟩ := h
    refine ⟨_, (pss_one (ps_ret (pe_fld (pv 0) (by rfl)))), ?_⟩
    exact ⟨_, rfl, a, _, dx, _, _, rfl, ha, T.c_At, T.a_At_moment, rfl, q⟩

theorem ok_At_ends {P : Program} {w : World} {K : PySem.W.Frag} {mg : Str → Option Value} {base : Heap} (T : Env K mg) : Fc P w K mg base 1 (He.ma K (He.ga K "At") "ends") [] (sp_At_ends K) := by
  obtain ⟨fd, D, F⟩ := fb_At_ends T
  exact F.all (D.bindsN fun _ _ _ _ _ _ us hl => match us, hl with | [_], _ => rfl)
end
section
def sp_At_begins (K : PySem.W.Frag) : Sp := fun vs H Q _ => ∃ a n, vs = [.ref a] ∧ AtAt K H a n ∧ Q (.int (n : Nat)) H
theorem fb_At_begins {P : Program} {w : World} {K : PySem.W.Frag} {mg : Str → Option Value} {base : Heap} (T : Env K mg) : ∃ fd, FunD K "begins" "At.begins" (defArgs s_At_begins) (defBody s_At_begins) (defScope s_At_begins) [] [] (He.ma K (He.ga K "At") "begins") fd ∧ Fb P w K mg base 1 (He.ma K (He.ga K "At") "begins") fd ["self"] (sp_At_begins K) := by
  obtain ⟨fd, F⟩ := T.f_At_begins
  refine ⟨fd, F, fb_of F sc_At_begins (fun vs H Q E h => ?_) (fun cdv A outer s H vs Q E hr h => ?_)⟩
  · obtain ⟨a, n, rfl, _⟩ := h
    rfl
  · obtain ⟨a, n, rfl, ⟨dx, ha⟩, q⟩ := h
    refine ⟨_, (pss_one (ps_ret (pe_fld (pv 0) (by rfl)))), ?_⟩
    exact ⟨_, rfl, a, _, dx, _, _, rfl, ha, T.c_At, T.a_At_moment, rfl, q⟩

theorem ok_At_begins {P : Program} {w : World} {K : PySem.W.Frag} {mg : Str → Option Value} {base : Heap} (T : Env K mg) : Fc P w K mg base 1 (He.ma K (He.ga K "At") "begins") [] (sp_At_begins K) := by
  obtain ⟨fd, D, F⟩ := fb_At_begins T
  exact F.all (D.bindsN fun _ _ _ _ _ _ us hl => match us, hl with | [_], _ => rfl)
end
section
/-- whole numbers as values -/
def natV (ns : List Nat) : List V := ns.map fun n : Nat => V.int (n : Int)
/-- in order -/
def srtN (ns : List Nat) : List Nat := (srt (ns.map fun n : Nat => (n : Int))).map Int.toNat
theorem nat_int (ns : List Nat) : natV ns = (ns.map fun n : Nat => (n : Int)).map V.int := by
  unfold natV
  rw [List.map_map]
  rfl
theorem inV_nat (d : Nat) (ns : List Nat) : inV (.int (d : Int)) (natV ns) = decide (d ∈ ns) := by
  rw [nat_int, inV_int]
  apply decide_eq_decide.mpr
  constructor
  · intro h
    obtain ⟨n, hn, e⟩ := List.mem_map.mp h
    have : n = d := by omega
    exact this ▸ hn
  · intro h
    exact List.mem_map.mpr ⟨d, h, rfl⟩
theorem flat_nat (ns : List Nat) : (natV ns).all flatV = true := by
  rw [nat_int]
  exact flat_ints _
theorem mem_srtN (d : Nat) (ns : List Nat) : decide (d ∈ srtN ns) = decide (d ∈ ns) := by
  apply decide_eq_decide.mpr
  unfold srtN
  constructor
  · intro h
    obtain ⟨i, hi, e⟩ := List.mem_map.mp h
    obtain ⟨n, hn, e2⟩ := List.mem_map.mp ((srt_perm _).subset hi)
    have : n = d := by omega
    exact this ▸ hn
  · intro h
    exact List.mem_map.mpr ⟨(d : Int), (srt_perm _).symm.subset (List.mem_map.mpr ⟨d, h, rfl⟩), by simp⟩
theorem srtN_mem (d : Nat) (ns : List Nat) : d ∈ srtN ns ↔ d ∈ ns := decide_eq_decide.mp (mem_srtN d ns)
theorem natV_len (ns : List Nat) : (natV ns).length = ns.length := by
  unfold natV
  rw [List.length_map]
theorem srtN_len (ns : List Nat) : (srtN ns).length = ns.length := by
  unfold srtN
  rw [List.length_map, (srt_perm _).length_eq, List.length_map]
theorem fm_const (n : Nat) (v : V) : (List.range n).filterMap (fun _ => some v) = List.replicate n v := by
  induction n with
  | zero => rfl
  | succ n ih => rw [List.range_succ, List.filterMap_append, ih, List.replicate_succ']; rfl
theorem any_rep (n : Nat) : (List.replicate n false).any id = false := by
  induction n with
  | zero => rfl
  | succ n ih => rw [List.replicate_succ, List.any_cons, ih]; rfl
theorem natV_srt (ns : List Nat) : (srt (ns.map fun n : Nat => (n : Int))).map V.int = natV (srtN ns) := by
  unfold natV srtN
  rw [List.map_map]
  apply List.map_congr_left
  intro i hi
  obtain ⟨n, _, e⟩ := List.mem_map.mp ((srt_perm _).subset hi)
  show V.int i = V.int ((i.toNat : Nat) : Int)
  rw [Int.toNat_of_nonneg (by omega)]
theorem srtN_lt {ns : List Nat} (h : ns.Nodup) : (srtN ns).Pairwise (· < ·) := by
  have h1 : (srt (ns.map fun n : Nat => (n : Int))).Pairwise (· ≤ ·) := srt_sorted _
  have h2 : (srt (ns.map fun n : Nat => (n : Int))).Nodup := (srt_perm _).nodup_iff.mpr (List.Pairwise.map _ (fun a b (hab : a ≠ b) (z : (a : Int) = b) => hab (by omega)) h)
  unfold srtN
  refine List.pairwise_map.mpr ?_
  have h0 : ∀ i ∈ srt (ns.map fun n : Nat => (n : Int)), 0 ≤ i := fun i hi => by
    obtain ⟨n, _, e⟩ := List.mem_map.mp ((srt_perm _).subset hi)
    omega
  refine (List.Pairwise.and h1 h2).imp_of_mem fun {a b} ha hb z => ?_
  have := h0 a ha
  have := h0 b hb
  have := z.1
  have : a ≠ b := z.2
  omega
theorem cut1 (xs : List V) : cutV xs (some 1) none = xs.drop 1 := by
  unfold cutV
  rw [HT.sIx_none, show (some (1 : Int)) = some ((1 : Nat) : Int) from rfl, HT.sIx_nat]
  cases xs with
  | nil => rfl
  | cons x r =>
    rw [show min 1 (x :: r).length = 1 by simp]
    exact List.take_of_length_le (by simp)
theorem zip_next {l : List Nat} (h : l.Pairwise (· < ·)) {i : Nat} {x y : V} (h1 : (natV l)[i]? = some x) (h2 : ((natV l).drop 1)[i]? = some y) : ∃ a b : Nat, x = .int a ∧ y = .int b ∧ a < b := by
  unfold natV at h1 h2
  rw [List.getElem?_drop] at h2
  rw [List.getElem?_map] at h1 h2
  obtain ⟨a, ha, ea⟩ := Option.map_eq_some_iff.mp h1
  obtain ⟨b, hb, eb⟩ := Option.map_eq_some_iff.mp h2
  obtain ⟨l1, e1⟩ := List.getElem?_eq_some_iff.mp ha
  obtain ⟨l2, e2⟩ := List.getElem?_eq_some_iff.mp hb
  refine ⟨a, b, ea.symm, eb.symm, ?_⟩
  have := List.pairwise_iff_getElem.mp h i (1 + i) l1 l2 (by omega)
  rw [e1, e2] at this
  exact this

end
section
/-- a tuple of Ats -/
def AtsAt (K : PySem.W.Frag) (H : Hp) (as : List Addr) (ns : List Nat) : Prop := as.length = ns.length ∧ ∀ (i : Nat) (a : Addr) (n : Nat), as[i]? = some a → ns[i]? = some n → AtAt K H a n
theorem AtsAt.mono {K : PySem.W.Frag} {H H' : Hp} {as : List Addr} {ns : List Nat} (h : AtsAt K H as ns) (e : Ex H H') : AtsAt K H' as ns := ⟨h.1, fun i a n x y => (h.2 i a n x y).mono e⟩
theorem all_repT (n : Nat) : (List.replicate n true).all id = true := by
  induction n with
  | zero => rfl
  | succ n ih =>
    rw [List.replicate_succ, List.all_cons, ih]
    rfl
def sp_all_rising (K : PySem.W.Frag) : Sp := fun vs H Q _ => ∃ p as ns, vs = [.ref p] ∧ H p = some (.tup (as.map V.ref)) ∧ AtsAt K H as ns ∧ ns.Pairwise (· < ·) ∧ ns.length ≤ 100 ∧ ∀ H', Ex H H' → Q (.bl true) H'
theorem fb_all_rising {P : Program} {w : World} {K : PySem.W.Frag} {mg : Str → Option Value} {base : Heap} (T : Env K mg) : ∃ fd, FunD K "all_rising" "all_rising" (defArgs s_all_rising) (defBody s_all_rising) (defScope s_all_rising) [] [] (He.ga K "all_rising") fd ∧ Fb P w K mg base 2 (He.ga K "all_rising") fd ["parts"] (sp_all_rising K) := by
  obtain ⟨fd, F⟩ := T.f_all_rising
  refine ⟨fd, F, fb_of F sc_all_rising (fun vs H Q E h => ?_) (fun cdv A outer s H vs Q E hr h => ?_)⟩
  · obtain ⟨p, as, ns, rfl, _⟩ := h
    rfl
  · obtain ⟨p, as, ns, rfl, hp, hA, hs, hl, q⟩ := h
    refine ⟨_, (pss_one (ps_ret (pe_callB (cr_all rfl) (by rfl) T.n_all (by decide +kernel) (pa_cons (pe_lc (own := [("one", 1), ("other", 2)]) (by rfl) sc_all_rising.nd (RZ.pi_zipA (by rfl) T.n_zip (pa_cons (pv 0) (pa_cons (pe_slice sl_tupA (pv 0) (po_some pe_int) po_none) pa_nil))) (blkOk_by (own := [("one", 1), ("other", 2)]) (N := ["parts", "one", "other"]) (sc := defScope s_all_rising) (by decide +kernel)) (fun _ _ _ _ _ => (pg_tupK K (n := 2) rfl (pgs_cons (pg_name (i := 1) sc_all_rising.nd rfl (Or.inl rfl)) (pgs_cons (pg_name (i := 2) sc_all_rising.nd rfl (Or.inl rfl)) pgs_nil)))) (fun _ _ _ _ _ => pts_nil) (fun _ _ _ _ _ => (pe_cmpR op_lt (c_meth0 (pv 1) T.c_At T.m_At_ends (ok_At_ends T) (hr.mono (by decide)) takes0) (c_meth0 (pv 2) T.c_At T.m_At_begins (ok_At_begins T) (hr.mono (by decide)) takes0) (nomark _)))) pa_nil)))), ?_⟩
    refine ⟨_, rfl, _, rfl, _, rfl, ?_⟩
    dsimp only [tNoPart]
    refine slA_of (sq_tup hp) fun b2 H4 X4 hb2 => ?_
    rw [cut1] at hb2
    have ed : (as.map V.ref).drop 1 = (as.drop 1).map V.ref := by rw [List.map_drop]
    rw [ed] at hb2
    have hA4 := hA.mono X4
    obtain ⟨hl1, hA5⟩ := id hA4
    refine ⟨p, b2, as.map V.ref, (as.drop 1).map V.ref, rfl, .inr ⟨sq_tup (X4 _ _ hp), hb2, fun D nD => lc_zip as (as.drop 1) V.ref V.ref (walk_zipT rfl) (by rw [List.length_map, List.length_map]) (fun x y => some (.bl true)) (fun H' => Ex H4 H') (fun H' z e => ex_mut e nD) (.refl _) (by omega) (fun H' e => ⟨sq_tup (e _ _ (X4 _ _ hp)), ex_sqt e hb2⟩) (fun i x y u H5 acc N hx hy X5 nu hD la k => ?_) fun H5 X5 d5 => ?_⟩⟩
    · have hD2 := fun o => ex_new (o := o) nu _ _ hD
      obtain ⟨hi, _⟩ := List.getElem?_eq_some_iff.mp hx
      rw [List.getElem?_drop] at hy
      obtain ⟨hj, _⟩ := List.getElem?_eq_some_iff.mp hy
      have gi : ns[i]? = some ns[i] := List.getElem?_eq_getElem (by omega)
      have gj : ns[1 + i]? = some ns[1 + i] := List.getElem?_eq_getElem (by omega)
      have lt : ns[i] < ns[1 + i] := List.pairwise_iff_getElem.mp hs i (1 + i) (by omega) (by omega) (by omega)
      generalize ns[i] = m at gi lt
      generalize ns[1 + i] = m2 at gj lt
      have Z := fun o => X5.trans (ex_new (o := o) nu)
      obtain ⟨dx, h1⟩ := (hA5 i x m hx gi).mono (Z (.tup [.ref x, .ref y]))
      obtain ⟨dy, h2⟩ := (hA5 (1 + i) y m2 hy gj).mono (Z (.tup [.ref x, .ref y]))
      refine ⟨u, _, rfl, sq_tup upd_same, rfl, _, _, rfl, _, _, rfl, rfl, rfl, _, rfl, x, dx, _, rfl, h1, rfl, x, m, rfl, ⟨dx, h1⟩, _, rfl, y, dy, _, rfl, h2, rfl, y, m2, rfl, ⟨dy, h2⟩, _, _, rfl, rfl, acc, hD2 _, la, ?_⟩
      show N (upd (upd H5 u (.tup [.ref x, .ref y])) D (.lst (acc ++ [.bl (decide (((m : Nat) : Int) < ((m2 : Nat) : Int)))])))
      rw [decide_eq_true (show ((m : Nat) : Int) < ((m2 : Nat) : Int) by omega)]
      exact k _ (Z _) (hD2 _)
    · have ef : (as.zip (as.drop 1)).filterMap (fun p => some (V.bl true)) = (List.replicate (as.zip (as.drop 1)).length true).map V.bl := by
        rw [List.map_replicate, ← List.map_const']
        rw [List.filterMap_eq_map']
      rw [ef] at d5
      refine ⟨D, _, rfl, sq_lst d5, ?_⟩
      rw [all_repT]
      exact q _ (X4.trans X5)

theorem ok_all_rising {P : Program} {w : World} {K : PySem.W.Frag} {mg : Str → Option Value} {base : Heap} (T : Env K mg) : Fc P w K mg base 2 (He.ga K "all_rising") [] (sp_all_rising K) := by
  obtain ⟨fd, D, F⟩ := fb_all_rising T
  exact F.all (D.bindsN fun _ _ _ _ _ _ us hl => match us, hl with | [_], _ => rfl)
end
section
/-- at p a list or a tuple -/
def SqA (H : Hp) (p : Addr) (xs : List V) : Prop := H p = some (.lst xs) ∨ H p = some (.tup xs)
def sp_shorts_in (K : PySem.W.Frag) : Sp := fun vs H Q _ => ∃ p as ns, vs = [.ref p] ∧ SqA H p (as.map V.ref) ∧ AtsAt K H as ns ∧ ns.Pairwise (· < ·) ∧ ns.length ≤ 100 ∧ ∀ t H', Ex H H' → H' t = some (.tup (as.map V.ref)) → Q (.ref t) H'
theorem fb_shorts_in {P : Program} {w : World} {K : PySem.W.Frag} {mg : Str → Option Value} {base : Heap} (T : Env K mg) : ∃ fd, FunD K "shorts_in" "shorts_in" (defArgs s_shorts_in) (defBody s_shorts_in) (defScope s_shorts_in) [] [] (He.ga K "shorts_in") fd ∧ Fb P w K mg base 3 (He.ga K "shorts_in") fd ["parts"] (sp_shorts_in K) := by
  obtain ⟨fd, F⟩ := T.f_shorts_in
  refine ⟨fd, F, fb_of F sc_shorts_in (fun vs H Q E h => ?_) (fun cdv A outer s H vs Q E hr h => ?_)⟩
  · obtain ⟨p, as, ns, rfl, _⟩ := h
    rfl
  · obtain ⟨p, as, ns, rfl, hp, hA, hs, hl, q⟩ := h
    refine ⟨_, (pss_cons (ps_if (pt_not (pt_val (pe_callB call_isiT (by rfl) T.n_isinstance (by decide +kernel) (pa_cons (pv 0) (pa_cons (pe_tup (pa_cons (pe_bltn (v := .ty "list") (by rfl) T.n_list (by decide +kernel) rfl) (pa_cons (pe_bltn (v := .ty "tuple") (by rfl) T.n_tuple (by decide +kernel) rfl) pa_nil))) pa_nil)))))
      (pss_one (ps_raise rfl (takes_of rfl rfl rfl rfl) (pmk_own PySem.F.excBase_ValueError T.x_NoPiece.x T.g_NoPiece T.x_NoPiece.kp (raises_own T.x_NoPiece.sub T.x_NoPiece.ty) rfl)))
      pss_nil)
      (pss_cons (ps_set (i := 1) sc_shorts_in.nd rfl (Or.inl rfl) (pe_callTy call_tuple_of (by rfl) T.n_tuple (by decide +kernel) (pa_cons (pv 0) pa_nil)))
      (pss_cons (ps_if (PW.pt (pw_or (pt_not (pt_val (pe_callB (cr_all rfl) (by rfl) T.n_all (by decide +kernel) (pa_cons (pe_lc (own := [("one", 2)]) (by rfl) sc_shorts_in.nd (pi_tup (pv 1)) (blkOk_by (own := [("one", 2)]) (N := ["parts", "found", "one"]) (sc := defScope s_shorts_in) (by decide +kernel)) (fun _ _ _ _ _ => (pg_name (i := 2) sc_shorts_in.nd rfl (Or.inl rfl))) (fun _ _ _ _ _ => pts_nil) (fun _ _ _ _ _ => (pe_callB (call_isiK K) (by rfl) T.n_isinstance (by decide +kernel) (pa_cons (pv 2) (pa_cons (pe_glob (v := .ref _) (by rfl) T.g_Short rfl) pa_nil))))) pa_nil)))) (pw_or1 (pt_not (pt_val (c_call (ok_all_rising T) (hr.mono (by decide)) T.g_all_rising T.k_all_rising (takes_of rfl rfl rfl rfl) (pa_cons (pv 1) pa_nil)))))))
      (pss_one (ps_raise rfl (takes_of rfl rfl rfl rfl) (pmk_own PySem.F.excBase_ValueError T.x_NoPiece.x T.g_NoPiece T.x_NoPiece.kp (raises_own T.x_NoPiece.sub T.x_NoPiece.ty) rfl)))
      pss_nil)
      (pss_one (ps_ret (pv 1)))))), ?_⟩
    refine ⟨_, rfl, by show 2 ≤ sizeLine; decide, fun tp ntp => ?_⟩
    have X1 := ex_new (o := .tup [.ty "list", .ty "tuple"]) ntp
    have ty : ∃ t, TyX K (upd H tp (.tup [.ty "list", .ty "tuple"])) (.ref p) t ∧ PySem.W.kitAny K t [.type "list", .type "tuple"] = some true := by
      rcases hp with h | h
      · exact ⟨_, .base (.lst (X1 _ _ h)), kitAny_cons (b := true) (kit_ty (by decide +kernel)) (fun z => nomatch z) (fun _ => rfl)⟩
      · exact ⟨_, .base (.tup (X1 _ _ h)), kitAny_cons (b := false) (kit_ty (by decide +kernel)) (fun _ => kitAny_cons (b := true) (kit_ty (by decide +kernel)) (fun z => nomatch z) (fun _ => rfl)) (by decide)⟩
    obtain ⟨t, ty, kt⟩ := ty
    refine ⟨.ref p, tp, _, t, _, true, rfl, upd_same, .cons (.ty "list") (.cons (.ty "tuple") .nil), ty, kt, true, rfl, iteF ?_⟩
    generalize upd H tp (.tup [.ty "list", .ty "tuple"]) = H1 at X1 ty ⊢
    refine ⟨_, rfl, p, as.map V.ref, rfl, ?_⟩
    have rest : ∀ t2 H2, Ex H1 H2 → H2 t2 = some (.tup (as.map V.ref)) → (tSeq (tIfS (tOr (tNot (tB (tCB (rAll K) (tCons (tLc (iTup K (tVar 1)) (gName 2) tYes (tCB (rIsi K) (tCons (tVar 2) (tCons (tC (V.ref (He.ga K "Short"))) tNil))) (List.map (fun x => x.snd) [(Str.ofString "one", 2)])) tNil)))) (tNot (tB (tFc (sp_all_rising K) (fun cls d x H => E cls d H) (tCons (tVar 1) tNil))))) (fun x σ H => (fun cls d H' => E cls d H') (Value.ref (He.ga K "NoPiece")) none H) tNext) (tRet (tVar 1))) { nx := fun _ H' => Q .non H', rt := Q } [some (.ref p), some (.ref t2), none] H2 := fun t2 H2 X2 h2 => by
      have X02 := X1.trans X2
      have hA2 := hA.mono X02
      refine ⟨_, rfl, t2, rfl, ⟨_, sq_tup h2⟩, fun A nA => lc_on as V.ref L2.walk_tup (fun _ => some (.bl true)) (fun H' => Ex H2 H') (fun H' z e => ex_mut e nA) (.refl _) (by have := hA.1; omega) (fun H' e => sq_tup (e _ _ h2)) (fun i x H3 acc N hx X3 hD la k => ?_) fun H3 X3 d3 => ?_⟩
      · obtain ⟨hi, _⟩ := List.getElem?_eq_some_iff.mp hx
        have gi : ns[i]? = some (ns[i]'(by have := hA.1; omega)) := List.getElem?_eq_getElem _
        obtain ⟨dx, h1⟩ := (hA2.2 i x _ hx gi).mono X3
        exact ⟨rfl, _, rfl, .ref x, .ref (He.ga K "Short"), _, _, true, rfl, .own _, ty_ins T.i_At T.c_At h1, T.kit_At_Short, acc, hD, la, k H3 X3 hD⟩
      · have ef : as.filterMap (fun _ => some (V.bl true)) = (List.replicate as.length true).map V.bl := by
          rw [List.map_replicate, ← List.map_const', List.filterMap_eq_map']
        rw [ef] at d3
        refine ⟨A, _, rfl, sq_lst d3, ?_⟩
        rw [all_repT]
        refine ⟨true, rfl, iteF ?_⟩
        refine ⟨_, rfl, t2, as, ns, rfl, X3 _ _ h2, hA2.mono X3, hs, hl, fun H4 X4 => ⟨true, rfl, iteF ?_⟩⟩
        exact ⟨_, rfl, q t2 H4 (X02.trans (X3.trans X4)) ((X3.trans X4) _ _ h2)⟩
    rcases hp with h | h
    · exact .inl ⟨sq_lst (X1 _ _ h), fun t2 nt2 => rest t2 _ (ex_new nt2) upd_same⟩
    · exact .inr ⟨sq_tup (X1 _ _ h), rest p _ (.refl _) (X1 _ _ h)⟩

theorem ok_shorts_in {P : Program} {w : World} {K : PySem.W.Frag} {mg : Str → Option Value} {base : Heap} (T : Env K mg) : Fc P w K mg base 3 (He.ga K "shorts_in") [] (sp_shorts_in K) := by
  obtain ⟨fd, D, F⟩ := fb_shorts_in T
  exact F.all (D.bindsN fun _ _ _ _ _ _ us hl => match us, hl with | [_], _ => rfl)
end
section
def sp_At_moments (K : PySem.W.Frag) : Sp := fun vs H Q _ => ∃ a n, vs = [.ref a] ∧ AtAt K H a n ∧ ∀ p, H p = none → Q (.ref p) (upd H p (.lst [.int (n : Nat)]))
theorem fb_At_moments {P : Program} {w : World} {K : PySem.W.Frag} {mg : Str → Option Value} {base : Heap} (T : Env K mg) : ∃ fd, FunD K "moments" "At.moments" (defArgs s_At_moments) (defBody s_At_moments) (defScope s_At_moments) [] [] (He.ma K (He.ga K "At") "moments") fd ∧ Fb P w K mg base 1 (He.ma K (He.ga K "At") "moments") fd ["self"] (sp_At_moments K) := by
  obtain ⟨fd, F⟩ := T.f_At_moments
  refine ⟨fd, F, fb_of F sc_At_moments (fun vs H Q E h => ?_) (fun cdv A outer s H vs Q E hr h => ?_)⟩
  · obtain ⟨a, n, rfl, _⟩ := h
    rfl
  · obtain ⟨a, n, rfl, ⟨dx, ha⟩, q⟩ := h
    refine ⟨_, (pss_one (ps_ret (pe_lst (pa_cons (pe_fld (pv 0) (by rfl)) pa_nil)))), ?_⟩
    exact ⟨_, rfl, a, _, dx, _, _, rfl, ha, T.c_At, T.a_At_moment, rfl, by show 1 ≤ sizeLine; decide, q⟩

theorem ok_At_moments {P : Program} {w : World} {K : PySem.W.Frag} {mg : Str → Option Value} {base : Heap} (T : Env K mg) : Fc P w K mg base 1 (He.ma K (He.ga K "At") "moments") [] (sp_At_moments K) := by
  obtain ⟨fd, D, F⟩ := fb_At_moments T
  exact F.all (D.bindsN fun _ _ _ _ _ _ us hl => match us, hl with | [_], _ => rfl)
end
section
def sp_row_moments (K : PySem.W.Frag) : Sp := fun vs H Q _ => ∃ p as ns, vs = [.ref p] ∧ H p = some (.tup (as.map V.ref)) ∧ AtsAt K H as ns ∧ ns.length ≤ 100 ∧ ∀ t H', Ex H H' → H t = none → H' t = some (.lst (natV ns)) → Q (.ref t) H'
theorem fb_row_moments {P : Program} {w : World} {K : PySem.W.Frag} {mg : Str → Option Value} {base : Heap} (T : Env K mg) : ∃ fd, FunD K "row_moments" "row_moments" (defArgs s_row_moments) (defBody s_row_moments) (defScope s_row_moments) [] [] (He.ga K "row_moments") fd ∧ Fb P w K mg base 2 (He.ga K "row_moments") fd ["parts"] (sp_row_moments K) := by
  obtain ⟨fd, F⟩ := T.f_row_moments
  refine ⟨fd, F, fb_of F sc_row_moments (fun vs H Q E h => ?_) (fun cdv A outer s H vs Q E hr h => ?_)⟩
  · obtain ⟨p, as, ns, rfl, _⟩ := h
    rfl
  · obtain ⟨p, as, ns, rfl, hp, hA, hl, q⟩ := h
    refine ⟨_, (pss_cons (ps_set (i := 1) sc_row_moments.nd rfl (Or.inl rfl) (pe_lst pa_nil))
      (pss_cons (ps_for (passes_of rfl) rfl (pi_tup (pv 0)) (pg_name (i := 2) sc_row_moments.nd rfl (Or.inl rfl))
      (pss_one (ps_expr (pe_bm PySem.F.plainAttrs_list PySem.F.slot_list_extend PySem.F.type_list_extend mt_extend (pv 1) (pa_cons (c_meth0 (pv 2) T.c_At T.m_At_moments (ok_At_moments T) (hr.mono (by decide)) takes0) pa_nil)))))
      (pss_one (ps_ret (pv 1))))), ?_⟩
    refine ⟨by show 0 ≤ sizeLine; decide, fun f nf => ?_⟩
    have X0 := ex_new (o := .lst []) nf
    have hl1 := hA.1
    have pf : p ≠ f := ne_of_none hp nf
    have af : ∀ {i a n}, as[i]? = some a → ns[i]? = some n → a ≠ f := fun {i a n} x y => by
      obtain ⟨dx, h⟩ := hA.2 i a n x y
      exact ne_of_none h nf
    refine ⟨_, rfl, p, rfl, ⟨_, sq_tup (X0 _ _ hp)⟩, for_on as V.ref L2.walk_tup (fun i σ H' => Oth f H H' ∧ ∃ v2, σ = [some (.ref p), some (.ref f), v2] ∧ H' f = some (.lst (natV (ns.take i)))) ⟨ex_oth X0, _, rfl, upd_same⟩ (fun i σ H' z => sq_tup (z.1 _ _ pf hp)) ?_ ?_⟩
    · rintro i a σ H2 hx ⟨O2, v2, rfl, hf⟩
      obtain ⟨hi, _⟩ := List.getElem?_eq_some_iff.mp hx
      have gi : ns[i]? = some (ns[i]'(by omega)) := List.getElem?_eq_getElem _
      have eT := take_snoc gi
      generalize ns[i]'(by omega) = n at gi eT
      obtain ⟨dx, h1⟩ := hA.2 i a n hx gi
      have h2 := O2 _ _ (af hx gi) h1
      refine ⟨_, rfl, .inl ⟨rfl, _, sq_lst hf⟩, _, rfl, a, dx, _, rfl, h2, rfl, a, n, rfl, ⟨dx, h2⟩, fun u nu => ?_⟩
      have X3 := ex_new (o := .lst [.int (n : Nat)]) nu
      refine ⟨f, u, _, _, rfl, rfl, X3 _ _ hf, upd_same, sz_le (by rw [natV_len, List.length_take]; show _ + 1 ≤ _; omega), (O2.trans (ex_oth X3)).upd, _, rfl, ?_⟩
      rw [upd_same, eT]
      unfold natV
      rw [List.map_append]
      rfl
    · rintro σ H2 ⟨O2, v2, rfl, hf⟩
      rw [List.take_of_length_le (by omega)] at hf
      exact ⟨_, rfl, q f H2 (fun b o e => O2 b o (ne_of_none e nf) e) nf hf⟩

theorem ok_row_moments {P : Program} {w : World} {K : PySem.W.Frag} {mg : Str → Option Value} {base : Heap} (T : Env K mg) : Fc P w K mg base 2 (He.ga K "row_moments") [] (sp_row_moments K) := by
  obtain ⟨fd, D, F⟩ := fb_row_moments T
  exact F.all (D.bindsN fun _ _ _ _ _ _ us hl => match us, hl with | [_], _ => rfl)
end
section
def sp_At_means_many (K : PySem.W.Frag) : Sp := fun vs H Q _ => ∃ a n, vs = [.ref a] ∧ AtAt K H a n ∧ Q (.int 1) H
theorem fb_At_means_many {P : Program} {w : World} {K : PySem.W.Frag} {mg : Str → Option Value} {base : Heap} (T : Env K mg) : ∃ fd, FunD K "means_many" "At.means_many" (defArgs s_At_means_many) (defBody s_At_means_many) (defScope s_At_means_many) [] [] (He.ma K (He.ga K "At") "means_many") fd ∧ Fb P w K mg base 1 (He.ma K (He.ga K "At") "means_many") fd ["self"] (sp_At_means_many K) := by
  obtain ⟨fd, F⟩ := T.f_At_means_many
  refine ⟨fd, F, fb_of F sc_At_means_many (fun vs H Q E h => ?_) (fun cdv A outer s H vs Q E hr h => ?_)⟩
  · obtain ⟨a, n, rfl, _⟩ := h
    rfl
  · obtain ⟨a, n, rfl, ⟨dx, ha⟩, q⟩ := h
    refine ⟨_, (pss_one (ps_ret pe_int)), ?_⟩
    exact q

theorem ok_At_means_many {P : Program} {w : World} {K : PySem.W.Frag} {mg : Str → Option Value} {base : Heap} (T : Env K mg) : Fc P w K mg base 1 (He.ma K (He.ga K "At") "means_many") [] (sp_At_means_many K) := by
  obtain ⟨fd, D, F⟩ := fb_At_means_many T
  exact F.all (D.bindsN fun _ _ _ _ _ _ us hl => match us, hl with | [_], _ => rfl)
end
section
theorem sum_ones (n : Nat) : (List.replicate n (1 : Int)).sum = (n : Nat) := by
  induction n with
  | zero => rfl
  | succ n ih =>
    rw [List.replicate_succ, List.sum_cons, ih]
    omega
def sp_row_many (K : PySem.W.Frag) : Sp := fun vs H Q _ => ∃ p as ns, vs = [.ref p] ∧ H p = some (.tup (as.map V.ref)) ∧ AtsAt K H as ns ∧ ns.length ≤ 100 ∧ ∀ H', Ex H H' → Q (.int (ns.length : Nat)) H'
theorem fb_row_many {P : Program} {w : World} {K : PySem.W.Frag} {mg : Str → Option Value} {base : Heap} (T : Env K mg) : ∃ fd, FunD K "row_many" "row_many" (defArgs s_row_many) (defBody s_row_many) (defScope s_row_many) [] [] (He.ga K "row_many") fd ∧ Fb P w K mg base 2 (He.ga K "row_many") fd ["parts"] (sp_row_many K) := by
  obtain ⟨fd, F⟩ := T.f_row_many
  refine ⟨fd, F, fb_of F sc_row_many (fun vs H Q E h => ?_) (fun cdv A outer s H vs Q E hr h => ?_)⟩
  · obtain ⟨p, as, ns, rfl, _⟩ := h
    rfl
  · obtain ⟨p, as, ns, rfl, hp, hA, hl, q⟩ := h
    refine ⟨_, (pss_one (ps_ret (pe_callB (cr_sum rfl) (by rfl) T.n_sum (by decide +kernel) (pa_cons (pe_lc (own := [("one", 1)]) (by rfl) sc_row_many.nd (pi_tup (pv 0)) (blkOk_by (own := [("one", 1)]) (N := ["parts", "one"]) (sc := defScope s_row_many) (by decide +kernel)) (fun _ _ _ _ _ => (pg_name (i := 1) sc_row_many.nd rfl (Or.inl rfl))) (fun _ _ _ _ _ => pts_nil) (fun _ _ _ _ _ => (c_meth0 (pv 1) T.c_At T.m_At_means_many (ok_At_means_many T) (hr.mono (by decide)) takes0))) pa_nil)))), ?_⟩
    have hl1 := hA.1
    refine ⟨_, rfl, p, rfl, ⟨_, sq_tup hp⟩, fun A nA => lc_on as V.ref L2.walk_tup (fun _ => some (.int 1)) (fun H' => Ex H H') (fun H' z e => ex_mut e nA) (.refl _) (by omega) (fun H' e => sq_tup (e _ _ hp)) (fun i x H3 acc N hx X3 hD la k => ?_) fun H3 X3 d3 => ?_⟩
    · obtain ⟨hi, _⟩ := List.getElem?_eq_some_iff.mp hx
      have gi : ns[i]? = some (ns[i]'(by omega)) := List.getElem?_eq_getElem _
      obtain ⟨dx, h1⟩ := (hA.2 i x _ hx gi).mono X3
      exact ⟨rfl, _, rfl, x, dx, _, rfl, h1, rfl, x, _, rfl, ⟨dx, h1⟩, acc, hD, la, k H3 X3 hD⟩
    · have ef : as.filterMap (fun _ => some (V.int 1)) = (List.replicate as.length (1 : Int)).map V.int := by
        rw [List.map_replicate, ← List.map_const', List.filterMap_eq_map']
      rw [ef] at d3
      refine ⟨A, _, rfl, sq_lst d3, ?_⟩
      rw [sum_ones, hl1]
      exact q _ X3

theorem ok_row_many {P : Program} {w : World} {K : PySem.W.Frag} {mg : Str → Option Value} {base : Heap} (T : Env K mg) : Fc P w K mg base 2 (He.ga K "row_many") [] (sp_row_many K) := by
  obtain ⟨fd, D, F⟩ := fb_row_many T
  exact F.all (D.bindsN fun _ _ _ _ _ _ us hl => match us, hl with | [_], _ => rfl)
end
section
def sp_At_pieces (K : PySem.W.Frag) : Sp := fun vs H Q _ => ∃ a n, vs = [.ref a] ∧ AtAt K H a n ∧ Q (.int 1) H
theorem fb_At_pieces {P : Program} {w : World} {K : PySem.W.Frag} {mg : Str → Option Value} {base : Heap} (T : Env K mg) : ∃ fd, FunD K "pieces" "At.pieces" (defArgs s_At_pieces) (defBody s_At_pieces) (defScope s_At_pieces) [] [] (He.ma K (He.ga K "At") "pieces") fd ∧ Fb P w K mg base 1 (He.ma K (He.ga K "At") "pieces") fd ["self"] (sp_At_pieces K) := by
  obtain ⟨fd, F⟩ := T.f_At_pieces
  refine ⟨fd, F, fb_of F sc_At_pieces (fun vs H Q E h => ?_) (fun cdv A outer s H vs Q E hr h => ?_)⟩
  · obtain ⟨a, n, rfl, _⟩ := h
    rfl
  · obtain ⟨a, n, rfl, ⟨dx, ha⟩, q⟩ := h
    refine ⟨_, (pss_one (ps_ret pe_int)), ?_⟩
    exact q

theorem ok_At_pieces {P : Program} {w : World} {K : PySem.W.Frag} {mg : Str → Option Value} {base : Heap} (T : Env K mg) : Fc P w K mg base 1 (He.ma K (He.ga K "At") "pieces") [] (sp_At_pieces K) := by
  obtain ⟨fd, D, F⟩ := fb_At_pieces T
  exact F.all (D.bindsN fun _ _ _ _ _ _ us hl => match us, hl with | [_], _ => rfl)
end
section
def sp_row_pieces (K : PySem.W.Frag) : Sp := fun vs H Q _ => ∃ p as ns, vs = [.ref p] ∧ H p = some (.tup (as.map V.ref)) ∧ AtsAt K H as ns ∧ ns.length ≤ 100 ∧ ∀ H', Ex H H' → Q (.int (ns.length : Nat)) H'
theorem fb_row_pieces {P : Program} {w : World} {K : PySem.W.Frag} {mg : Str → Option Value} {base : Heap} (T : Env K mg) : ∃ fd, FunD K "row_pieces" "row_pieces" (defArgs s_row_pieces) (defBody s_row_pieces) (defScope s_row_pieces) [] [] (He.ga K "row_pieces") fd ∧ Fb P w K mg base 2 (He.ga K "row_pieces") fd ["parts"] (sp_row_pieces K) := by
  obtain ⟨fd, F⟩ := T.f_row_pieces
  refine ⟨fd, F, fb_of F sc_row_pieces (fun vs H Q E h => ?_) (fun cdv A outer s H vs Q E hr h => ?_)⟩
  · obtain ⟨p, as, ns, rfl, _⟩ := h
    rfl
  · obtain ⟨p, as, ns, rfl, hp, hA, hl, q⟩ := h
    refine ⟨_, (pss_one (ps_ret (pe_callB (cr_sum rfl) (by rfl) T.n_sum (by decide +kernel) (pa_cons (pe_lc (own := [("one", 1)]) (by rfl) sc_row_pieces.nd (pi_tup (pv 0)) (blkOk_by (own := [("one", 1)]) (N := ["parts", "one"]) (sc := defScope s_row_pieces) (by decide +kernel)) (fun _ _ _ _ _ => (pg_name (i := 1) sc_row_pieces.nd rfl (Or.inl rfl))) (fun _ _ _ _ _ => pts_nil) (fun _ _ _ _ _ => (c_meth0 (pv 1) T.c_At T.m_At_pieces (ok_At_pieces T) (hr.mono (by decide)) takes0))) pa_nil)))), ?_⟩
    have hl1 := hA.1
    refine ⟨_, rfl, p, rfl, ⟨_, sq_tup hp⟩, fun A nA => lc_on as V.ref L2.walk_tup (fun _ => some (.int 1)) (fun H' => Ex H H') (fun H' z e => ex_mut e nA) (.refl _) (by omega) (fun H' e => sq_tup (e _ _ hp)) (fun i x H3 acc N hx X3 hD la k => ?_) fun H3 X3 d3 => ?_⟩
    · obtain ⟨hi, _⟩ := List.getElem?_eq_some_iff.mp hx
      have gi : ns[i]? = some (ns[i]'(by omega)) := List.getElem?_eq_getElem _
      obtain ⟨dx, h1⟩ := (hA.2 i x _ hx gi).mono X3
      exact ⟨rfl, _, rfl, x, dx, _, rfl, h1, rfl, x, _, rfl, ⟨dx, h1⟩, acc, hD, la, k H3 X3 hD⟩
    · have ef : as.filterMap (fun _ => some (V.int 1)) = (List.replicate as.length (1 : Int)).map V.int := by
        rw [List.map_replicate, ← List.map_const', List.filterMap_eq_map']
      rw [ef] at d3
      refine ⟨A, _, rfl, sq_lst d3, ?_⟩
      rw [sum_ones, hl1]
      exact q _ X3

theorem ok_row_pieces {P : Program} {w : World} {K : PySem.W.Frag} {mg : Str → Option Value} {base : Heap} (T : Env K mg) : Fc P w K mg base 2 (He.ga K "row_pieces") [] (sp_row_pieces K) := by
  obtain ⟨fd, D, F⟩ := fb_row_pieces T
  exact F.all (D.bindsN fun _ _ _ _ _ _ us hl => match us, hl with | [_], _ => rfl)
end
section
def sp_At_nested (K : PySem.W.Frag) : Sp := fun vs H Q _ => ∃ a n, vs = [.ref a] ∧ AtAt K H a n ∧ Q (.int 0) H
theorem fb_At_nested {P : Program} {w : World} {K : PySem.W.Frag} {mg : Str → Option Value} {base : Heap} (T : Env K mg) : ∃ fd, FunD K "nested" "At.nested" (defArgs s_At_nested) (defBody s_At_nested) (defScope s_At_nested) [] [] (He.ma K (He.ga K "At") "nested") fd ∧ Fb P w K mg base 1 (He.ma K (He.ga K "At") "nested") fd ["self"] (sp_At_nested K) := by
  obtain ⟨fd, F⟩ := T.f_At_nested
  refine ⟨fd, F, fb_of F sc_At_nested (fun vs H Q E h => ?_) (fun cdv A outer s H vs Q E hr h => ?_)⟩
  · obtain ⟨a, n, rfl, _⟩ := h
    rfl
  · obtain ⟨a, n, rfl, ⟨dx, ha⟩, q⟩ := h
    refine ⟨_, (pss_one (ps_ret pe_int)), ?_⟩
    exact q

theorem ok_At_nested {P : Program} {w : World} {K : PySem.W.Frag} {mg : Str → Option Value} {base : Heap} (T : Env K mg) : Fc P w K mg base 1 (He.ma K (He.ga K "At") "nested") [] (sp_At_nested K) := by
  obtain ⟨fd, D, F⟩ := fb_At_nested T
  exact F.all (D.bindsN fun _ _ _ _ _ _ us hl => match us, hl with | [_], _ => rfl)
end
section
abbrev OverC (K : PySem.W.Frag) : Addr := He.ga K "Over"
def overF (kp : Addr) (m s : Nat) : List (Str × V) := [("kept", .ref kp), ("many", .int (m : Nat)), ("step", .int (s : Nat))]
/-- at a an Over of Ats -/
def OverAt (K : PySem.W.Frag) (H : Hp) (a : Addr) (as : List Addr) (ns : List Nat) (m s : Nat) : Prop := ∃ dx kp, H a = some (.ins (OverC K) dx (overF kp m s)) ∧ H kp = some (.tup (as.map V.ref)) ∧ AtsAt K H as ns
theorem OverAt.mono {K : PySem.W.Frag} {H H' : Hp} {a : Addr} {as : List Addr} {ns : List Nat} {m s : Nat} (h : OverAt K H a as ns m s) (e : Ex H H') : OverAt K H' a as ns m s := let ⟨dx, kp, h1, h2, h3⟩ := h; ⟨dx, kp, e _ _ h1, e _ _ h2, h3.mono e⟩
def sp_Over_means_many (K : PySem.W.Frag) : Sp := fun vs H Q _ => ∃ a as ns m s, vs = [.ref a] ∧ OverAt K H a as ns m s ∧ ns.length ≤ 100 ∧ m ≤ 10000 ∧ ∀ H', Ex H H' → Q (.int ((m * ns.length : Nat) : Int)) H'
theorem fb_Over_means_many {P : Program} {w : World} {K : PySem.W.Frag} {mg : Str → Option Value} {base : Heap} (T : Env K mg) : ∃ fd, FunD K "means_many" "Over.means_many" (defArgs s_Over_means_many) (defBody s_Over_means_many) (defScope s_Over_means_many) [] [] (He.ma K (He.ga K "Over") "means_many") fd ∧ Fb P w K mg base 3 (He.ma K (He.ga K "Over") "means_many") fd ["self"] (sp_Over_means_many K) := by
  obtain ⟨fd, F⟩ := T.f_Over_means_many
  refine ⟨fd, F, fb_of F sc_Over_means_many (fun vs H Q E h => ?_) (fun cdv A outer s H vs Q E hr h => ?_)⟩
  · obtain ⟨a, as, ns, m, s, rfl, _⟩ := h
    rfl
  · obtain ⟨a, as, ns, m, s_, rfl, hO, hl, q⟩ := h
    refine ⟨_, (pss_one (ps_ret (pe_op op_mul (pe_fld (pv 0) (by rfl)) (c_call (ok_row_many T) (hr.mono (by decide)) T.g_row_many T.k_row_many takes0 (pa_cons (pe_fld (pv 0) (by rfl)) pa_nil))))), ?_⟩
    obtain ⟨dx, kp, ha, hk, hA⟩ := id hO
    obtain ⟨hm, q⟩ := q
    refine ⟨_, rfl, a, _, dx, _, _, rfl, ha, T.c_Over, T.a_Over_many, rfl, _, rfl, a, _, dx, _, _, rfl, ha, T.c_Over, T.a_Over_kept, rfl, kp, as, ns, rfl, hk, hA, hl, fun H1 X1 => ⟨_, _, rfl, rfl, .inl ⟨by omega, by omega⟩, ?_⟩⟩
    have e : ((m : Nat) : Int) * ((ns.length : Nat) : Int) = ((m * ns.length : Nat) : Int) := by simp
    show Q (.int (((m : Nat) : Int) * ((ns.length : Nat) : Int))) H1
    rw [e]
    exact q H1 X1

theorem ok_Over_means_many {P : Program} {w : World} {K : PySem.W.Frag} {mg : Str → Option Value} {base : Heap} (T : Env K mg) : Fc P w K mg base 3 (He.ma K (He.ga K "Over") "means_many") [] (sp_Over_means_many K) := by
  obtain ⟨fd, D, F⟩ := fb_Over_means_many T
  exact F.all (D.bindsN fun _ _ _ _ _ _ us hl => match us, hl with | [_], _ => rfl)
end
section
def sp_Over_nested (K : PySem.W.Frag) : Sp := fun vs H Q _ => ∃ a as ns m s, vs = [.ref a] ∧ OverAt K H a as ns m s ∧ ns.length ≤ 100 ∧ ns ≠ [] ∧ ∀ H', Ex H H' → Q (.int 1) H'
theorem fb_Over_nested {P : Program} {w : World} {K : PySem.W.Frag} {mg : Str → Option Value} {base : Heap} (T : Env K mg) : ∃ fd, FunD K "nested" "Over.nested" (defArgs s_Over_nested) (defBody s_Over_nested) (defScope s_Over_nested) [] [] (He.ma K (He.ga K "Over") "nested") fd ∧ Fb P w K mg base 2 (He.ma K (He.ga K "Over") "nested") fd ["self"] (sp_Over_nested K) := by
  obtain ⟨fd, F⟩ := T.f_Over_nested
  refine ⟨fd, F, fb_of F sc_Over_nested (fun vs H Q E h => ?_) (fun cdv A outer s H vs Q E hr h => ?_)⟩
  · obtain ⟨a, as, ns, m, s, rfl, _⟩ := h
    rfl
  · obtain ⟨a, as, ns, m, s_, rfl, hO, hl, q⟩ := h
    refine ⟨_, (pss_one (ps_ret (pe_op op_add pe_int (pe_callB (cr_max rfl) (by rfl) T.n_max (by decide +kernel) (pa_cons (pe_lc (own := [("one", 1)]) (by rfl) sc_Over_nested.nd (pi_tup (pe_fld (pv 0) (by rfl))) (blkOk_by (own := [("one", 1)]) (N := ["self", "one"]) (sc := defScope s_Over_nested) (by decide +kernel)) (fun _ _ _ _ _ => (pg_name (i := 1) sc_Over_nested.nd rfl (Or.inl rfl))) (fun _ _ _ _ _ => pts_nil) (fun _ _ _ _ _ => (c_meth0 (pv 1) T.c_At T.m_At_nested (ok_At_nested T) (hr.mono (by decide)) takes0))) pa_nil))))), ?_⟩
    obtain ⟨dx, kp, ha, hk, hA⟩ := id hO
    obtain ⟨h0, q⟩ := q
    have hl1 := hA.1
    refine ⟨_, rfl, a, _, dx, _, _, rfl, ha, T.c_Over, T.a_Over_kept, rfl, kp, rfl, ⟨_, sq_tup hk⟩, fun A nA => lc_on as V.ref L2.walk_tup (fun _ => some (.int 0)) (fun H' => Ex H H') (fun H' z e => ex_mut e nA) (.refl _) (by omega) (fun H' e => sq_tup (e _ _ hk)) (fun i x H3 acc N hx X3 hD la k => ?_) fun H3 X3 d3 => ?_⟩
    · obtain ⟨hi, _⟩ := List.getElem?_eq_some_iff.mp hx
      have gi : ns[i]? = some (ns[i]'(by omega)) := List.getElem?_eq_getElem _
      obtain ⟨dy, h1⟩ := (hA.2 i x _ hx gi).mono X3
      exact ⟨rfl, _, rfl, x, dy, _, rfl, h1, rfl, x, _, rfl, ⟨dy, h1⟩, acc, hD, la, k H3 X3 hD⟩
    · have ef : as.filterMap (fun _ => some (V.int 0)) = (List.replicate as.length (0 : Int)).map V.int := by
        rw [List.map_replicate, ← List.map_const', List.filterMap_eq_map']
      rw [ef] at d3
      refine ⟨A, _, rfl, sq_lst d3, by rw [List.length_replicate, hl1]; exact List.length_pos_iff.mpr h0, fun m hm _ => ⟨_, _, rfl, rfl, ?_⟩⟩
      obtain rfl := (List.mem_replicate.mp hm).2
      exact q _ X3

theorem ok_Over_nested {P : Program} {w : World} {K : PySem.W.Frag} {mg : Str → Option Value} {base : Heap} (T : Env K mg) : Fc P w K mg base 2 (He.ma K (He.ga K "Over") "nested") [] (sp_Over_nested K) := by
  obtain ⟨fd, D, F⟩ := fb_Over_nested T
  exact F.all (D.bindsN fun _ _ _ _ _ _ us hl => match us, hl with | [_], _ => rfl)
end
section
def sp_Over_init (K : PySem.W.Frag) : Sp := fun vs H Q _ => ∃ a dx p as ns m s H0, vs = [.ref a, .ref p, .int (m : Nat), .int (s : Nat)] ∧ H a = some (.ins (OverC K) dx []) ∧ H0 a = none ∧ Ex H0 H ∧ SqA H0 p (as.map V.ref) ∧ AtsAt K H0 as ns ∧ ns.Pairwise (· < ·) ∧ ns ≠ [] ∧ ns.length ≤ 100 ∧ 2 ≤ m ∧ m * ns.length ≤ 1440 ∧ ns.getLastD 0 < s + ns.headD 0 ∧ 1 ≤ s ∧ ∀ H', Oth a H H' → OverAt K H' a as ns m s → Q .non H'
theorem fb_Over_init {P : Program} {w : World} {K : PySem.W.Frag} {mg : Str → Option Value} {base : Heap} (T : Env K mg) : ∃ fd, FunD K "__init__" "Over.__init__" (defArgs s_Over_init) (defBody s_Over_init) (defScope s_Over_init) [.int (2), .int (60)] [] (He.ma K (He.ga K "Over") "__init__") fd ∧ Fb P w K mg base 4 (He.ma K (He.ga K "Over") "__init__") fd ["self", "parts", "many", "step"] (sp_Over_init K) := by
  obtain ⟨fd, F⟩ := T.f_Over_init
  refine ⟨fd, F, fb_of F sc_Over_init (fun vs H Q E h => ?_) (fun cdv A outer s H vs Q E hr h => ?_)⟩
  · obtain ⟨a, dx, p, as, ns, m, s, H0, rfl, _⟩ := h
    rfl
  · obtain ⟨a, dx, p, as, ns, m, s_, H0, rfl, ha, na0, X0, hp, hA, hs, h0, hl, hm, hml, hst, hs1, q⟩ := h
    refine ⟨_, (pss_cons (ps_fld (pv 0) (c_call (ok_shorts_in T) (hr.mono (by decide)) T.g_shorts_in T.k_shorts_in (takes_of rfl rfl rfl rfl) (pa_cons (pv 1) pa_nil)) rfl)
      (pss_cons (ps_if (PW.pt (pw_or (pt_cmpR op_eq (pe_callB call_len (by rfl) T.n_len (by decide +kernel) (pa_cons (pe_fld (pv 0) (by rfl)) pa_nil)) pe_int (nomark _)) (pw_or (pt_not (pt_val (c_call (ok_is_number T) (hr.mono (by decide)) T.g_is_number T.k_is_number (takes_of rfl rfl rfl rfl) (pa_cons (pv 2) (pa_cons pe_int pa_nil))))) (pw_or1 (pt_not (pt_val (c_call (ok_is_number T) (hr.mono (by decide)) T.g_is_number T.k_is_number (takes_of rfl rfl rfl rfl) (pa_cons (pv 3) (pa_cons pe_int pa_nil)))))))))
      (pss_one (ps_raise rfl (takes_of rfl rfl rfl rfl) (pmk_own PySem.F.excBase_ValueError T.x_NoPiece.x T.g_NoPiece T.x_NoPiece.kp (raises_own T.x_NoPiece.sub T.x_NoPiece.ty) rfl)))
      pss_nil)
      (pss_cons (ps_if (pt_cmpR op_le (pv 3) (pe_op op_sub (c_meth0 (pe_ix ix_tup (pe_fld (pv 0) (by rfl)) (pe_un un_neg pe_int) (fun _ _ => rfl)) T.c_At T.m_At_ends (ok_At_ends T) (hr.mono (by decide)) (takes_of rfl rfl rfl rfl)) (c_meth0 (pe_ix ix_tup (pe_fld (pv 0) (by rfl)) pe_int (fun _ _ => rfl)) T.c_At T.m_At_begins (ok_At_begins T) (hr.mono (by decide)) (takes_of rfl rfl rfl rfl))) (nomark _))
      (pss_one (ps_raise rfl (takes_of rfl rfl rfl rfl) (pmk_own PySem.F.excBase_ValueError T.x_NoPiece.x T.g_NoPiece T.x_NoPiece.kp (raises_own T.x_NoPiece.sub T.x_NoPiece.ty) rfl)))
      pss_nil)
      (pss_cons (ps_fld (pv 0) (pv 2) rfl)
      (pss_cons (ps_fld (pv 0) (pv 3) rfl)
      (pss_one (ps_if (PW.pt (pw_or (pt_cmpR op_gt (c_meth0 (pv 0) T.c_Over T.m_Over_means_many (ok_Over_means_many T) (hr.mono (by decide)) (takes_of rfl rfl rfl rfl)) (pe_k T.v_MOST_MOMENTS) (nomark _)) (pw_or1 (pt_cmpR op_gt (c_meth0 (pv 0) T.c_Over T.m_Over_nested (ok_Over_nested T) (hr.mono (by decide)) (takes_of rfl rfl rfl rfl)) (pe_k T.v_MOST_NESTED) (nomark _)))))
      (pss_one (ps_raise rfl (takes_of rfl rfl rfl rfl) (pmk_own PySem.F.excBase_ValueError T.x_NoPiece.x T.g_NoPiece T.x_NoPiece.kp (raises_own T.x_NoPiece.sub T.x_NoPiece.ty) rfl)))
      pss_nil))))))), ?_⟩
    have hl1 := hA.1
    have pos : 0 < ns.length := List.length_pos_iff.mpr h0
    have as0 : as ≠ [] := fun z => by rw [z] at hl1; rw [← hl1] at pos; exact absurd pos (by decide)
    have m1440 : m ≤ 1440 := Nat.le_trans (Nat.le_mul_of_pos_right m pos) hml
    have hpH : SqA H p (as.map V.ref) := hp.imp (fun h => X0 _ _ h) (fun h => X0 _ _ h)
    refine ⟨_, rfl, p, as, ns, rfl, hpH, hA.mono X0, hs, hl, fun t H1 X1 ht => ?_⟩
    refine ⟨_, rfl, a, _, dx, [], rfl, X1 _ _ ha, T.c_Over, T.a_Over_kept, by decide, ?_⟩
    have ta : t ≠ a := fun z => by rw [z, X1 _ _ ha] at ht; cases ht
    have O1 : Oth a H (upd H1 a (.ins (OverC K) dx (putF "kept" (.ref t) []))) := (ex_oth X1).upd
    have h2 : upd H1 a (.ins (OverC K) dx (putF "kept" (.ref t) [])) a = some (.ins (OverC K) dx [("kept", .ref t)]) := upd_same
    have ht2 : upd H1 a (.ins (OverC K) dx (putF "kept" (.ref t) [])) t = some (.tup (as.map V.ref)) := by rw [upd_ne ta]; exact ht
    generalize upd H1 a (.ins (OverC K) dx (putF "kept" (.ref t) [])) = H2 at O1 h2 ht2 ⊢
    have hA2 : AtsAt K H2 as ns := ⟨hl1, fun i b n x y => by
      obtain ⟨db, hb⟩ := hA.2 i b n x y
      exact ⟨db, O1 _ _ (ne_of_none hb na0) (X0 _ _ hb)⟩⟩
    refine ⟨_, rfl, a, _, dx, _, _, rfl, h2, T.c_Over, T.a_Over_kept, rfl, _, as.length, rfl, .inr ⟨_, sq_tup ht2, (List.length_map _).symm⟩, rfl, _, rfl, ?_⟩
    rw [decide_eq_false (show ¬ V.int ((as.length : Nat) : Int) = V.int 0 from fun z => by injection z with z; omega)]
    refine iteF ?_
    refine ⟨_, rfl, _, 2, rfl, cl_int _, _, rfl, ?_⟩
    rw [show isN 2 (.int (m : Nat)) = true from isN_nat (m := 2) hm]
    refine iteF ?_
    refine ⟨_, rfl, _, 1, rfl, cl_int _, _, rfl, ?_⟩
    rw [show isN 1 (.int (s_ : Nat)) = true from isN_nat (m := 1) hs1]
    refine iteF ?_
    obtain ⟨zl, nl, gz, gn, el⟩ : ∃ z n, as[ns.length - 1]? = some z ∧ ns[ns.length - 1]? = some n ∧ ns.getLastD 0 = n := by
      refine ⟨as[ns.length - 1]'(by omega), ns[ns.length - 1]'(by omega), List.getElem?_eq_getElem _, List.getElem?_eq_getElem _, ?_⟩
      rw [List.getLastD_eq_getLast?, List.getLast?_eq_getElem?, List.getElem?_eq_getElem (by omega)]
      rfl
    obtain ⟨zf, nf, gf, gm, ef⟩ : ∃ z n, as[0]? = some z ∧ ns[0]? = some n ∧ ns.headD 0 = n := by
      refine ⟨as[0]'(by omega), ns[0]'(by omega), List.getElem?_eq_getElem _, List.getElem?_eq_getElem _, ?_⟩
      cases ns with
      | nil => exact absurd rfl h0
      | cons n r => rfl
    rw [el, ef] at hst
    obtain ⟨dl, hzl⟩ := hA2.2 _ zl nl gz gn
    obtain ⟨df, hzf⟩ := hA2.2 _ zf nf gf gm
    have aL : atI (as.map V.ref) (-1) = some (.ref zl) := by
      have e := (List.dropLast_concat_getLast as0).symm
      have e2 : as.getLast as0 = zl := by
        rw [← hl1] at gz
        rw [List.getLast_eq_getElem]
        obtain ⟨h, e⟩ := List.getElem?_eq_some_iff.mp gz
        exact e
      rw [e, List.map_append, e2]
      exact atI_last _ _
    have aF : atI (as.map V.ref) 0 = some (.ref zf) := by
      refine atI_nat (j := 0) ?_
      rw [List.getElem?_map, gf]
      rfl
    refine ⟨_, rfl, _, rfl, a, _, dx, _, _, rfl, h2, T.c_Over, T.a_Over_kept, rfl, _, rfl, t, _, _, _, rfl, rfl, sq_tup ht2, aL, zl, dl, _, rfl, hzl, rfl, zl, nl, rfl, ⟨dl, hzl⟩, ?_⟩
    refine ⟨_, rfl, a, _, dx, _, _, rfl, h2, T.c_Over, T.a_Over_kept, rfl, t, _, _, _, rfl, rfl, sq_tup ht2, aF, zf, df, _, rfl, hzf, rfl, zf, nf, rfl, ⟨df, hzf⟩, _, _, rfl, rfl, _, _, rfl, rfl, _, rfl, ?_⟩
    rw [decide_eq_false (show ¬ ((s_ : Nat) : Int) ≤ ((nl : Nat) : Int) - ((nf : Nat) : Int) by omega)]
    refine iteF ?_
    refine ⟨_, rfl, _, rfl, a, _, dx, _, rfl, h2, T.c_Over, T.a_Over_many, Nat.le_of_ble_eq_true rfl, ?_⟩
    refine ⟨_, rfl, _, rfl, a, _, dx, _, rfl, upd_same, T.c_Over, T.a_Over_step, Nat.le_of_ble_eq_true rfl, ?_⟩
    rw [upd_upd]
    rw [show putF "step" (V.int (s_ : Nat)) (putF "many" (V.int (m : Nat)) [("kept", V.ref t)]) = overF t m s_ from rfl]
    have O3 : Oth a H (upd H2 a (.ins (OverC K) dx (overF t m s_))) := O1.upd
    have hO : OverAt K (upd H2 a (.ins (OverC K) dx (overF t m s_))) a as ns m s_ := ⟨dx, t, upd_same, by rw [upd_ne ta]; exact ht2, ⟨hl1, fun i b n x y => by
      obtain ⟨db, hb⟩ := hA.2 i b n x y
      exact ⟨db, O3 _ _ (ne_of_none hb na0) (X0 _ _ hb)⟩⟩⟩
    have h3 : upd H2 a (.ins (OverC K) dx (overF t m s_)) a = some (.ins (OverC K) dx (overF t m s_)) := upd_same
    generalize upd H2 a (.ins (OverC K) dx (overF t m s_)) = H3 at O3 hO h3 ⊢
    refine ⟨_, rfl, a, dx, _, rfl, h3, rfl, a, as, ns, m, s_, rfl, hO, hl, by omega, fun H4 X4 => ⟨_, _, rfl, rfl, _, rfl, ?_⟩⟩
    rw [decide_eq_false (show ¬ (1440 : Int) < ((m * ns.length : Nat) : Int) by omega)]
    refine iteF ?_
    refine ⟨_, rfl, a, dx, _, rfl, X4 _ _ h3, rfl, a, as, ns, m, s_, rfl, hO.mono X4, hl, h0, fun H5 X5 => ⟨_, _, rfl, rfl, _, rfl, ?_⟩⟩
    exact iteF (q H5 (O3.trans (ex_oth (X4.trans X5))) (hO.mono (X4.trans X5)))
theorem over_new {K : PySem.W.Frag} {H : Hp} {x dx p : Addr} {as : List Addr} {ns : List Nat} {m s : Nat} {Q : VK} {E : XK} (nx : H x = none) (nd : H dx = none) (ne : dx ≠ x) (hp : SqA H p (as.map V.ref)) (hA : AtsAt K H as ns) (hs : ns.Pairwise (· < ·)) (h0 : ns ≠ []) (hl : ns.length ≤ 100) (hm : 2 ≤ m) (hml : m * ns.length ≤ 1440) (hst : ns.getLastD 0 < s + ns.headD 0) (hs1 : 1 ≤ s) (q : ∀ H', Ex H H' → OverAt K H' x as ns m s → Q .non H') :
    sp_Over_init K [.ref x, .ref p, .int (m : Nat), .int (s : Nat)] (upd (upd H dx (.own x)) x (.ins (OverC K) dx [])) Q E := by
  have X1 := ex_made (o1 := .own x) (o2 := .ins (OverC K) dx []) nx nd ne
  refine ⟨x, dx, p, as, ns, m, s, H, rfl, upd_same, nx, X1, hp, hA, hs, h0, hl, hm, hml, hst, hs1, fun H' k d => ?_⟩
  exact q H' (fun b o e => k b o (ne_of_none e nx) (X1 _ _ e)) d

theorem ok_Over_init {P : Program} {w : World} {K : PySem.W.Frag} {mg : Str → Option Value} {base : Heap} (T : Env K mg) : Fc P w K mg base 4 (He.ma K (He.ga K "Over") "__init__") [] (fun vs H Q E => vs.length = 4 + ([] : List Str).length ∧ sp_Over_init K (pick [.inl 0, .inl 1, .inl 2, .inl 3] vs [.int (2), .int (60)]) H Q E) := by
  obtain ⟨fd, D, F⟩ := fb_Over_init T
  exact Fb.shape D F 4 [] (fun us its => pick [.inl 0, .inl 1, .inl 2, .inl 3] us its) (by decide) (fun r1 r2 => pick_vals _ r1 r2) (fun T kV doc pm an cdv ct us ws its h1 h2 h3 => match us, ws, its, h1, h2, h3 with | [_, _, _, _], [], [_, _], _, _, _ => ⟨_, rfl, rfl⟩)
theorem ok_Over_init_2 {P : Program} {w : World} {K : PySem.W.Frag} {mg : Str → Option Value} {base : Heap} (T : Env K mg) : Fc P w K mg base 4 (He.ma K (He.ga K "Over") "__init__") [] (fun vs H Q E => vs.length = 2 + ([] : List Str).length ∧ sp_Over_init K (pick [.inl 0, .inl 1, .inr 0, .inr 1] vs [.int (2), .int (60)]) H Q E) := by
  obtain ⟨fd, D, F⟩ := fb_Over_init T
  exact Fb.shape D F 2 [] (fun us its => pick [.inl 0, .inl 1, .inr 0, .inr 1] us its) (by decide) (fun r1 r2 => pick_vals _ r1 r2) (fun T kV doc pm an cdv ct us ws its h1 h2 h3 => match us, ws, its, h1, h2, h3 with | [_, _], [], [_, _], _, _, _ => ⟨_, rfl, rfl⟩)
theorem ok_Over_init_2_many {P : Program} {w : World} {K : PySem.W.Frag} {mg : Str → Option Value} {base : Heap} (T : Env K mg) : Fc P w K mg base 4 (He.ma K (He.ga K "Over") "__init__") ["many"] (fun vs H Q E => vs.length = 2 + (["many"] : List Str).length ∧ sp_Over_init K (pick [.inl 0, .inl 1, .inl 2, .inr 1] vs [.int (2), .int (60)]) H Q E) := by
  obtain ⟨fd, D, F⟩ := fb_Over_init T
  exact Fb.shape D F 2 ["many"] (fun us its => pick [.inl 0, .inl 1, .inl 2, .inr 1] us its) (by decide) (fun r1 r2 => pick_vals _ r1 r2) (fun T kV doc pm an cdv ct us ws its h1 h2 h3 => match us, ws, its, h1, h2, h3 with | [_, _], [_], [_, _], _, _, _ => ⟨_, rfl, rfl⟩)
theorem ok_Over_init_2_step {P : Program} {w : World} {K : PySem.W.Frag} {mg : Str → Option Value} {base : Heap} (T : Env K mg) : Fc P w K mg base 4 (He.ma K (He.ga K "Over") "__init__") ["step"] (fun vs H Q E => vs.length = 2 + (["step"] : List Str).length ∧ sp_Over_init K (pick [.inl 0, .inl 1, .inr 0, .inl 2] vs [.int (2), .int (60)]) H Q E) := by
  obtain ⟨fd, D, F⟩ := fb_Over_init T
  exact Fb.shape D F 2 ["step"] (fun us its => pick [.inl 0, .inl 1, .inr 0, .inl 2] us its) (by decide) (fun r1 r2 => pick_vals _ r1 r2) (fun T kV doc pm an cdv ct us ws its h1 h2 h3 => match us, ws, its, h1, h2, h3 with | [_, _], [_], [_, _], _, _, _ => ⟨_, rfl, rfl⟩)
theorem ok_Over_init_1_parts_step_many {P : Program} {w : World} {K : PySem.W.Frag} {mg : Str → Option Value} {base : Heap} (T : Env K mg) : Fc P w K mg base 4 (He.ma K (He.ga K "Over") "__init__") ["parts", "step", "many"] (fun vs H Q E => vs.length = 1 + (["parts", "step", "many"] : List Str).length ∧ sp_Over_init K (pick [.inl 0, .inl 1, .inl 3, .inl 2] vs [.int (2), .int (60)]) H Q E) := by
  obtain ⟨fd, D, F⟩ := fb_Over_init T
  exact Fb.shape D F 1 ["parts", "step", "many"] (fun us its => pick [.inl 0, .inl 1, .inl 3, .inl 2] us its) (by decide) (fun r1 r2 => pick_vals _ r1 r2) (fun T kV doc pm an cdv ct us ws its h1 h2 h3 => match us, ws, its, h1, h2, h3 with | [_], [_, _, _], [_, _], _, _, _ => ⟨_, rfl, rfl⟩)
end
section
def sp_Over_parts (K : PySem.W.Frag) : Sp := fun vs H Q _ => ∃ a as ns m s, vs = [.ref a] ∧ OverAt K H a as ns m s ∧ ns.length ≤ 100 ∧ ∀ p, H p = none → Q (.ref p) (upd H p (.lst (as.map V.ref)))
theorem fb_Over_parts {P : Program} {w : World} {K : PySem.W.Frag} {mg : Str → Option Value} {base : Heap} (T : Env K mg) : ∃ fd, FunD K "parts" "Over.parts" (defArgs s_Over_parts) (defBody s_Over_parts) (defScope s_Over_parts) [] [] (He.ma K (He.ga K "Over") "parts") fd ∧ Fb P w K mg base 1 (He.ma K (He.ga K "Over") "parts") fd ["self"] (sp_Over_parts K) := by
  obtain ⟨fd, F⟩ := T.f_Over_parts
  refine ⟨fd, F, fb_of F sc_Over_parts (fun vs H Q E h => ?_) (fun cdv A outer s H vs Q E hr h => ?_)⟩
  · obtain ⟨a, as, ns, m, s, rfl, _⟩ := h
    rfl
  · obtain ⟨a, as, ns, m, s_, rfl, hO, hl, q⟩ := h
    refine ⟨_, (pss_one (ps_ret (pe_callTy call_list_of (by rfl) T.n_list (by decide +kernel) (pa_cons (pe_fld (pv 0) (by rfl)) pa_nil)))), ?_⟩
    obtain ⟨dx, kp, ha, hk, hA⟩ := id hO
    exact ⟨_, rfl, a, _, dx, _, _, rfl, ha, T.c_Over, T.a_Over_kept, rfl, kp, _, rfl, .inr (sq_tup hk), q⟩

theorem ok_Over_parts {P : Program} {w : World} {K : PySem.W.Frag} {mg : Str → Option Value} {base : Heap} (T : Env K mg) : Fc P w K mg base 1 (He.ma K (He.ga K "Over") "parts") [] (sp_Over_parts K) := by
  obtain ⟨fd, D, F⟩ := fb_Over_parts T
  exact F.all (D.bindsN fun _ _ _ _ _ _ us hl => match us, hl with | [_], _ => rfl)
end
section
/-- the moments of ns, over and over -/
def overN (ns : List Nat) (m s : Nat) : List Nat := (List.range m).flatMap fun t => ns.map fun n => n + t * s
theorem overN_len (ns : List Nat) (m s : Nat) : (overN ns m s).length = m * ns.length := by
  unfold overN
  induction m with
  | zero => simp
  | succ m ih =>
    rw [List.range_succ, List.flatMap_append, List.length_append, ih]
    simp
    rw [Nat.add_mul, Nat.one_mul]
def sp_Over_moments (K : PySem.W.Frag) : Sp := fun vs H Q _ => ∃ a as ns m s, vs = [.ref a] ∧ OverAt K H a as ns m s ∧ ns.length ≤ 100 ∧ m ≤ 1440 ∧ m * ns.length ≤ 1440 ∧ ∀ p H', Ex H H' → H p = none → H' p = some (.lst (natV (overN ns m s))) → Q (.ref p) H'
theorem fb_Over_moments {P : Program} {w : World} {K : PySem.W.Frag} {mg : Str → Option Value} {base : Heap} (T : Env K mg) : ∃ fd, FunD K "moments" "Over.moments" (defArgs s_Over_moments) (defBody s_Over_moments) (defScope s_Over_moments) [] [] (He.ma K (He.ga K "Over") "moments") fd ∧ Fb P w K mg base 3 (He.ma K (He.ga K "Over") "moments") fd ["self"] (sp_Over_moments K) := by
  obtain ⟨fd, F⟩ := T.f_Over_moments
  refine ⟨fd, F, fb_of F sc_Over_moments (fun vs H Q E h => ?_) (fun cdv A outer s H vs Q E hr h => ?_)⟩
  · obtain ⟨a, as, ns, m, s, rfl, _⟩ := h
    rfl
  · obtain ⟨a, as, ns, m, s_, rfl, hO, hl, q⟩ := h
    refine ⟨_, (pss_cons (ps_set (i := 1) sc_Over_moments.nd rfl (Or.inl rfl) (c_call (ok_row_moments T) (hr.mono (by decide)) T.g_row_moments T.k_row_moments takes0 (pa_cons (pe_fld (pv 0) (by rfl)) pa_nil)))
      (pss_cons (ps_set (i := 2) sc_Over_moments.nd rfl (Or.inl rfl) (pe_lst pa_nil))
      (pss_cons (ps_for (passes_of rfl) rfl (pi_range1 (by rfl) T.n_range (pa_cons (pe_fld (pv 0) (by rfl)) pa_nil)) (pg_name (i := 3) sc_Over_moments.nd rfl (Or.inr rfl))
      (pss_one (ps_expr (pe_bm PySem.F.plainAttrs_list PySem.F.slot_list_extend PySem.F.type_list_extend mt_extend (pv 2) (pa_cons (pe_lc (own := [("moment", 4)]) (by rfl) sc_Over_moments.nd (pi_list (pv 1)) (blkOk_by (own := [("moment", 4)]) (N := ["self", "own", "found", "time", "moment"]) (sc := defScope s_Over_moments) (by decide +kernel)) (fun _ _ _ _ _ => (pg_name (i := 4) sc_Over_moments.nd rfl (Or.inl rfl))) (fun _ _ _ _ _ => pts_nil) (fun _ _ _ _ _ => (pe_op op_add (pv 4) (pe_op op_mul (pv 3) (pe_fldK K (pv 0) (by rfl)))))) pa_nil)))))
      (pss_one (ps_ret (pv 2)))))), ?_⟩
    obtain ⟨dx, kp, ha, hk, hA⟩ := id hO
    obtain ⟨hm, hml, q⟩ := q
    refine ⟨_, rfl, a, _, dx, _, _, rfl, ha, T.c_Over, T.a_Over_kept, rfl, kp, as, ns, rfl, hk, hA, hl, fun w H1 X1 nw hw => ?_⟩
    refine ⟨by show 0 ≤ sizeLine; decide, fun f nf => ?_⟩
    have nf0 := ex_fresh X1 nf
    have X2 := X1.trans (ex_new (o := .lst []) nf)
    have wf : w ≠ f := ne_of_none hw nf
    have af : a ≠ f := ne_of_none ha nf0
    have ha2 := X2 _ _ ha
    have hw2 := ex_new (o := .lst []) nf _ _ hw
    have hf2 : upd H1 f (.lst []) f = some (.lst []) := upd_same
    generalize upd H1 f (.lst []) = H2 at X2 ha2 hw2 hf2 ⊢
    refine ⟨_, rfl, a, _, dx, _, _, rfl, ha2, T.c_Over, T.a_Over_many, rfl, _, rfl, by omega, by omega, for_range (fun i σ H' => Oth f H2 H' ∧ ∃ v3 v4, σ = [some (.ref a), some (.ref w), some (.ref f), v3, v4] ∧ H' f = some (.lst (natV (overN ns i s_)))) ⟨Oth.refl _ _, _, _, rfl, hf2⟩ ?_ ?_⟩
    · rintro i σ H3 hi ⟨O3, v3, v4, rfl, hf3⟩
      have hi2 : i < m := by omega
      have hw3 := O3 _ _ wf hw2
      have ha3 := O3 _ _ af ha2
      have ll : (overN ns i s_).length = i * ns.length := overN_len ns i s_
      have l2 : i * ns.length ≤ m * ns.length := Nat.mul_le_mul_right _ (by omega)
      refine ⟨_, rfl, .inl ⟨rfl, _, sq_lst hf3⟩, _, rfl, w, rfl, ⟨_, sq_lst hw3⟩, fun A nA => lc_on ns (fun n : Nat => V.int n) L2.walk_list (fun n => some (.int ((n + i * s_ : Nat) : Int))) (fun H' => Ex H3 H') (fun H' z e => ex_mut e nA) (.refl _) (by omega) (fun H' e => sq_lst (e _ _ hw3)) (fun j n H4 acc N hn X4 hD la k => ?_) fun H4 X4 d4 => ?_⟩
      · refine ⟨rfl, _, rfl, _, rfl, _, rfl, a, _, dx, _, _, rfl, X4 _ _ ha3, T.c_Over, T.a_Over_step, rfl, _, _, rfl, rfl, .inl ⟨by omega, by omega⟩, _, _, rfl, rfl, acc, hD, la, ?_⟩
        have e : ((n : Nat) : Int) + (0 + ((i : Nat) : Int)) * ((s_ : Nat) : Int) = ((n + i * s_ : Nat) : Int) := by simp
        show N (upd H4 A (.lst (acc ++ [.int (((n : Nat) : Int) + (0 + ((i : Nat) : Int)) * ((s_ : Nat) : Int))])))
        rw [e]
        exact k H4 X4 hD
      · have ed : ns.filterMap (fun n => some (V.int ((n + i * s_ : Nat) : Int))) = natV (ns.map fun n => n + i * s_) := by
          unfold natV
          rw [List.filterMap_eq_map', List.map_map]
          rfl
        rw [ed] at d4
        refine ⟨f, A, _, _, rfl, rfl, X4 _ _ hf3, d4, sz_le (by rw [natV_len, natV_len, List.length_map, ll]; omega), (O3.trans (ex_oth X4)).upd, _, _, rfl, ?_⟩
        rw [upd_same]
        unfold natV overN
        rw [← List.map_append, List.range_succ, List.flatMap_append]
        simp
    · rintro σ H3 ⟨O3, v3, v4, rfl, hf3⟩
      rw [show ((m : Nat) : Int).toNat = m by omega] at hf3
      exact ⟨_, rfl, q f H3 (Oth.ex X2 nf0 O3) nf0 hf3⟩

theorem ok_Over_moments {P : Program} {w : World} {K : PySem.W.Frag} {mg : Str → Option Value} {base : Heap} (T : Env K mg) : Fc P w K mg base 3 (He.ma K (He.ga K "Over") "moments") [] (sp_Over_moments K) := by
  obtain ⟨fd, D, F⟩ := fb_Over_moments T
  exact F.all (D.bindsN fun _ _ _ _ _ _ us hl => match us, hl with | [_], _ => rfl)
end
section
def sp_Over_pieces (K : PySem.W.Frag) : Sp := fun vs H Q _ => ∃ a as ns m s, vs = [.ref a] ∧ OverAt K H a as ns m s ∧ ns.length ≤ 100 ∧ ∀ H', Ex H H' → Q (.int ((ns.length + 1 : Nat) : Int)) H'
theorem fb_Over_pieces {P : Program} {w : World} {K : PySem.W.Frag} {mg : Str → Option Value} {base : Heap} (T : Env K mg) : ∃ fd, FunD K "pieces" "Over.pieces" (defArgs s_Over_pieces) (defBody s_Over_pieces) (defScope s_Over_pieces) [] [] (He.ma K (He.ga K "Over") "pieces") fd ∧ Fb P w K mg base 3 (He.ma K (He.ga K "Over") "pieces") fd ["self"] (sp_Over_pieces K) := by
  obtain ⟨fd, F⟩ := T.f_Over_pieces
  refine ⟨fd, F, fb_of F sc_Over_pieces (fun vs H Q E h => ?_) (fun cdv A outer s H vs Q E hr h => ?_)⟩
  · obtain ⟨a, as, ns, m, s, rfl, _⟩ := h
    rfl
  · obtain ⟨a, as, ns, m, s_, rfl, hO, hl, q⟩ := h
    refine ⟨_, (pss_one (ps_ret (pe_op op_add pe_int (c_call (ok_row_pieces T) (hr.mono (by decide)) T.g_row_pieces T.k_row_pieces takes0 (pa_cons (pe_fld (pv 0) (by rfl)) pa_nil))))), ?_⟩
    obtain ⟨dx, kp, ha, hk, hA⟩ := id hO
    refine ⟨_, rfl, a, _, dx, _, _, rfl, ha, T.c_Over, T.a_Over_kept, rfl, kp, as, ns, rfl, hk, hA, hl, fun H1 X1 => ⟨_, _, rfl, rfl, ?_⟩⟩
    have e : (1 : Int) + ((ns.length : Nat) : Int) = ((ns.length + 1 : Nat) : Int) := by omega
    show Q (.int ((1 : Int) + ((ns.length : Nat) : Int))) H1
    rw [e]
    exact q H1 X1

theorem ok_Over_pieces {P : Program} {w : World} {K : PySem.W.Frag} {mg : Str → Option Value} {base : Heap} (T : Env K mg) : Fc P w K mg base 3 (He.ma K (He.ga K "Over") "pieces") [] (sp_Over_pieces K) := by
  obtain ⟨fd, D, F⟩ := fb_Over_pieces T
  exact F.all (D.bindsN fun _ _ _ _ _ _ us hl => match us, hl with | [_], _ => rfl)
end
section
/-- a pot: what is left of a cell's digits, and what mixes -/
def Pot (H : Hp) (p : Addr) : Prop := ∃ a b : Int, H p = some (.lst [.int a, .int b]) ∧ 0 ≤ b ∧ b < 4294967296
def sp__law_pot (K : PySem.W.Frag) : Sp := fun vs H Q _ => ∃ (a : Addr) (ns : List Int) (k : Int), vs = [.ref a, .int k] ∧ SqL K H a (ns.map V.int) ∧ 0 ≤ k ∧ k < 1000 ∧ ∀ p H', H p = none → Pot H' p → (∀ b, b ≠ p → H' b = H b) → Q (.ref p) H'
theorem fb__law_pot {P : Program} {w : World} {K : PySem.W.Frag} {mg : Str → Option Value} {base : Heap} (T : Env K mg) : ∃ fd, FunD K "_law_pot" "_law_pot" (defArgs s__law_pot) (defBody s__law_pot) (defScope s__law_pot) [] [] (He.ga K "_law_pot") fd ∧ Fb P w K mg base 1 (He.ga K "_law_pot") fd ["_law_script", "_law_k"] (sp__law_pot K) := by
  obtain ⟨fd, F⟩ := T.f__law_pot
  refine ⟨fd, F, fb_of F sc__law_pot (fun vs H Q E h => ?_) (fun cdv A outer s H vs Q E hr h => ?_)⟩
  · obtain ⟨a, ns, k, rfl, _⟩ := h
    rfl
  · obtain ⟨a, ns, k, rfl, hS, k0, k1, q⟩ := h
    refine ⟨_, (pss_cons (ps_set (i := 2) sc__law_pot.nd rfl (Or.inl rfl) pe_int)
      (Evl.pss_cut (ps_if (pt_cmpR op_lt (pv 1) (pe_callB call_len (by rfl) T.n_len (by decide +kernel) (pa_cons (pv 0) pa_nil)) (nomark _))
      (pss_one (ps_set (i := 2) sc__law_pot.nd rfl (Or.inl rfl) (pe_ix ix_list (pv 0) (pv 1) (fun _ _ => rfl))))
      pss_nil)
      (pss_one (ps_ret (pe_lst (pa_cons (pe_callB (call_max2 rfl) (by rfl) T.n_max (by decide +kernel) (pa_cons pe_int (pa_cons (pe_op op_sub (pv 2) (pe_op op_pow pe_int pe_int)) pa_nil))) (pa_cons (pe_op op_add (pe_op op_add (pe_op op_mod (pv 2) pe_int) (pe_op op_mul pe_int (pv 1))) pe_int) pa_nil))))))), ?_⟩
    refine ⟨fun σ' H' => H' = H ∧ ∃ cell : Int, σ' = [some (.ref a), some (.int k), some (.int cell)], ?_, ?_⟩
    · refine ⟨_, rfl, _, rfl, _, _, rfl, .inl ⟨_, hS, rfl⟩, _, _, rfl, rfl, _, rfl, ite2 (fun c => ?_) (fun c => ?_)⟩
      · have c2 : k < ((ns.map V.int).length : Int) := of_decide_eq_true c
        rw [List.length_map] at c2
        obtain ⟨i, rfl⟩ := Int.eq_ofNat_of_zero_le k0
        have hi : i < ns.length := Int.ofNat_lt.mp c2
        refine ⟨_, rfl, _, rfl, a, _, _, .int ns[i], rfl, rfl, hS, ?_, rfl, ns[i], rfl⟩
        exact atI_nat (by rw [List.getElem?_map, List.getElem?_eq_getElem hi]; rfl)
      · exact ⟨rfl, 0, rfl⟩
    · rintro σ' H' ⟨rfl, cell, rfl⟩
      have m1 := Int.emod_nonneg cell (show (2147483629 : Int) ≠ 0 by decide)
      have m2 := Int.emod_lt_of_pos cell (show (0 : Int) < 2147483629 by decide)
      refine ⟨_, rfl, _, _, rfl, rfl, ⟨by decide, by decide, by decide⟩, _, _, rfl, rfl, _, _, rfl, ?_⟩
      refine ⟨_, rfl, _, _, rfl, rfl, (by show (0 : Int) < 2147483629; decide), _, rfl, _, _, rfl, rfl, .inl (by decide), _, _, rfl, rfl, _, _, rfl, rfl, by show 2 ≤ sizeLine; decide, fun p hp => ?_⟩
      exact q p _ hp ⟨_, _, upd_same, by omega, by omega⟩ fun b n => upd_ne n

theorem ok__law_pot {P : Program} {w : World} {K : PySem.W.Frag} {mg : Str → Option Value} {base : Heap} (T : Env K mg) : Fc P w K mg base 1 (He.ga K "_law_pot") [] (sp__law_pot K) := by
  obtain ⟨fd, D, F⟩ := fb__law_pot T
  exact F.all (D.bindsN fun _ _ _ _ _ _ us hl => match us, hl with | [_, _], _ => rfl)
end
section
/-- the pot at p is drawn from: everything else stays -/
def PotOn (H H' : Hp) (p : Addr) : Prop := Pot H' p ∧ ∀ b o, b ≠ p → H b = some o → H' b = some o
theorem PotOn.refl {H : Hp} {p : Addr} (h : Pot H p) : PotOn H H p := ⟨h, fun _ _ _ e => e⟩
theorem PotOn.trans {H H1 H2 : Hp} {p : Addr} (a : PotOn H H1 p) (b : PotOn H1 H2 p) : PotOn H H2 p := ⟨b.1, fun c o n e => b.2 c o n (a.2 c o n e)⟩
theorem pot_new {H H' : Hp} {p l : Addr} {o : HO} (P : PotOn H H' p) (n : H' l = none) : PotOn H (upd H' l o) p := by
  obtain ⟨⟨x, y, e, r⟩, k⟩ := P
  refine ⟨⟨x, y, by rw [upd_ne (ne_of_none e n)]; exact e, r⟩, fun b u nb h => ?_⟩
  rw [upd_ne (ne_of_none (k b u nb h) n)]
  exact k b u nb h
def sp__law_draw (K : PySem.W.Frag) : Sp := fun vs H Q _ => ∃ (p : Addr) (n : Int), vs = [.ref p, .int n] ∧ Pot H p ∧ 0 < n ∧ n < 1073741824 ∧ ∀ (d : Int) H', 0 ≤ d → d < n → PotOn H H' p → Q (.int d) H'
theorem fb__law_draw {P : Program} {w : World} {K : PySem.W.Frag} {mg : Str → Option Value} {base : Heap} (T : Env K mg) : ∃ fd, FunD K "_law_draw" "_law_draw" (defArgs s__law_draw) (defBody s__law_draw) (defScope s__law_draw) [] [] (He.ga K "_law_draw") fd ∧ Fb P w K mg base 1 (He.ga K "_law_draw") fd ["_law_pot_here", "_law_room"] (sp__law_draw K) := by
  obtain ⟨fd, F⟩ := T.f__law_draw
  refine ⟨fd, F, fb_of F sc__law_draw (fun vs H Q E h => ?_) (fun cdv A outer s H vs Q E hr h => ?_)⟩
  · obtain ⟨p, n, rfl, _⟩ := h
    rfl
  · obtain ⟨p, n, rfl, ⟨a, b, hp, b0, b1⟩, n0, n1, q⟩ := h
    refine ⟨_, (pss_cons (ps_if (pt_cmpR op_gt (pe_ix ix_list (pv 0) pe_int (fun _ _ => rfl)) pe_int (nomark _))
      (pss_cons (ps_asg (pe_callB call_divmodW (by rfl) T.n_divmod (by decide +kernel) (pa_cons (pe_ix ix_list (pv 0) pe_int (fun _ _ => rfl)) (pa_cons (pv 1) pa_nil))) (pg_tup (by rfl) (pgs_cons (pg_sub (pv 0) pe_int set_list) (pgs_cons (pg_name (i := 2) sc__law_draw.nd rfl (Or.inl rfl)) pgs_nil))))
      (pss_one (ps_ret (pv 2))))
      pss_nil)
      (pss_cons (ps_asg (pe_op op_mod (pe_op op_add (pe_op op_mul (pe_ix ix_list (pv 0) pe_int (fun _ _ => rfl)) pe_int) pe_int) pe_int) (pg_sub (pv 0) pe_int set_list))
      (pss_one (ps_ret (pe_op op_mod (pe_op op_fdiv (pe_op op_mod (pe_op op_mul (pe_ix ix_list (pv 0) pe_int (fun _ _ => rfl)) (pe_ix ix_list (pv 0) pe_int (fun _ _ => rfl))) pe_int) pe_int) (pv 1)))))), ?_⟩
    refine ⟨_, rfl, p, _, _, .int a, rfl, rfl, sq_lst hp, rfl, _, _, rfl, rfl, _, rfl, ite2 (fun _ => ?_) (fun _ => ?_)⟩
    · refine ⟨_, rfl, p, _, _, .int a, rfl, rfl, sq_lst hp, rfl, _, rfl, a, n, rfl, ⟨n0, PyProof.noPylong_small (by omega)⟩, fun t ht => ?_⟩
      have pt : p ≠ t := ne_of_none hp ht
      refine ⟨t, _, rfl, sq_tup upd_same, rfl, _, _, rfl, _, rfl, p, [.int a, .int b], 0, 0, rfl, rfl, (by rw [upd_ne pt]; exact hp), rfl, _, _, rfl, rfl, _, rfl, ?_⟩
      refine q _ _ (Int.emod_nonneg _ (by omega)) (Int.emod_lt_of_pos _ n0) ⟨⟨_, _, upd_same, b0, b1⟩, fun x o nx e => ?_⟩
      rw [upd_ne nx, upd_ne (ne_of_none e ht)]
      exact e
    · refine ⟨_, rfl, p, _, _, .int b, rfl, rfl, sq_lst hp, rfl, _, _, rfl, rfl, .inr (by decide), _, _, rfl, rfl, _, _, rfl, rfl, (by show (0 : Int) < 2147483629; decide), _, rfl, p, _, 1, 1, rfl, rfl, hp, rfl, ?_⟩
      have m1 := Int.emod_nonneg (b * 48271 + 8191) (show (2147483629 : Int) ≠ 0 by decide)
      have m2 := Int.emod_lt_of_pos (b * 48271 + 8191) (show (0 : Int) < 2147483629 by decide)
      refine ⟨_, rfl, p, _, _, .int ((b * 48271 + 8191) % 2147483629), rfl, rfl, sq_lst upd_same, rfl, _, rfl, p, _, _, .int ((b * 48271 + 8191) % 2147483629), rfl, rfl, sq_lst upd_same, rfl, _, _, rfl, rfl, .inl ⟨by omega, by omega⟩, _, _, rfl, rfl, (by show (0 : Int) < 2147483587; decide), _, _, rfl, rfl, ⟨by decide, by decide⟩, _, rfl, _, _, rfl, rfl, n0, ?_⟩
      refine q _ _ (Int.emod_nonneg _ (by omega)) (Int.emod_lt_of_pos _ n0) ⟨⟨_, _, upd_same, m1, by omega⟩, fun x o nx e => ?_⟩
      rw [upd_ne nx]
      exact e
theorem PotOn.ex {H0 H H' : Hp} {p : Addr} (e : Ex H0 H) (n : H0 p = none) (P : PotOn H H' p) : Ex H0 H' := fun b o h => P.2 b o (ne_of_none h n) (e b o h)
theorem pot_upd {H H' : Hp} {p l : Addr} {o : HO} (P : PotOn H H' p) (n : H l = none) (ne : l ≠ p) : PotOn H (upd H' l o) p := by
  obtain ⟨⟨x, y, e, r⟩, k⟩ := P
  refine ⟨⟨x, y, by rw [upd_ne (Ne.symm ne)]; exact e, r⟩, fun b u nb h => ?_⟩
  rw [upd_ne (ne_of_none h n)]
  exact k b u nb h
theorem PotOn.then {H H1 H2 : Hp} {p : Addr} (P : PotOn H H1 p) (np : H p = none) (e : Ex H1 H2) : PotOn H H2 p := by
  obtain ⟨⟨x, y, h, r⟩, k⟩ := P
  exact ⟨⟨x, y, e _ _ h, r⟩, fun b u nb h => e _ _ (k b u nb h)⟩
theorem PotOn.ex2 {H H1 H2 : Hp} {p : Addr} (P : PotOn H H1 p) (e : Ex H1 H2) : PotOn H H2 p := by
  obtain ⟨⟨x, y, h, r⟩, k⟩ := P
  exact ⟨⟨x, y, e _ _ h, r⟩, fun b u nb h => e _ _ (k b u nb h)⟩
theorem pot_ne {H H' : Hp} {p l : Addr} (P : PotOn H H' p) (n : H' l = none) : l ≠ p := fun z => by
  obtain ⟨_, _, e, _⟩ := P.1
  rw [z, e] at n
  cases n
theorem at_mem {xs : List V} {i : Int} (h0 : 0 ≤ i) (h1 : i < (xs.length : Nat)) : ∃ x, x ∈ xs ∧ atI xs i = some x := by
  obtain ⟨n, rfl⟩ := Int.eq_ofNat_of_zero_le h0
  have hn : n < xs.length := Int.ofNat_lt.mp h1
  exact ⟨xs[n], List.getElem_mem hn, atI_nat (List.getElem?_eq_getElem hn)⟩
theorem PotOn.fresh {H H' : Hp} {p b : Addr} (P : PotOn H H' p) (n : H' b = none) : H b = none := by
  cases e : H b with
  | none => rfl
  | some o =>
    by_cases hb : b = p
    · obtain ⟨_, _, e2, _⟩ := P.1
      rw [hb, e2] at n
      cases n
    · rw [P.2 b o hb e] at n
      cases n
theorem pot_other {H : Hp} {p b : Addr} {o : HO} (hp : Pot H p) (h : H b = some o) (ho : ∀ x y : Int, o ≠ .lst [.int x, .int y]) : b ≠ p := fun w => by
  obtain ⟨x, y, e, _⟩ := hp
  rw [w, e] at h
  exact ho x y (Option.some.inj h).symm

theorem ok__law_draw {P : Program} {w : World} {K : PySem.W.Frag} {mg : Str → Option Value} {base : Heap} (T : Env K mg) : Fc P w K mg base 1 (He.ga K "_law_draw") [] (sp__law_draw K) := by
  obtain ⟨fd, D, F⟩ := fb__law_draw T
  exact F.all (D.bindsN fun _ _ _ _ _ _ us hl => match us, hl with | [_, _], _ => rfl)
end
section
def sp__law_near (K : PySem.W.Frag) : Sp := fun vs H Q _ => ∃ p, vs = [.ref p] ∧ Pot H p ∧ ∀ (n : Nat) H', n < 10 ^ 56 → PotOn H H' p → Q (.int (n : Nat)) H'
theorem fb__law_near {P : Program} {w : World} {K : PySem.W.Frag} {mg : Str → Option Value} {base : Heap} (T : Env K mg) : ∃ fd, FunD K "_law_near" "_law_near" (defArgs s__law_near) (defBody s__law_near) (defScope s__law_near) [] [] (He.ga K "_law_near") fd ∧ Fb P w K mg base 2 (He.ga K "_law_near") fd ["_law_pot_here"] (sp__law_near K) := by
  obtain ⟨fd, F⟩ := T.f__law_near
  refine ⟨fd, F, fb_of F sc__law_near (fun vs H Q E h => ?_) (fun cdv A outer s H vs Q E hr h => ?_)⟩
  · obtain ⟨p, rfl, _⟩ := h
    rfl
  · obtain ⟨p, rfl, hp, q⟩ := h
    refine ⟨_, (pss_cons (ps_set (i := 1) sc__law_near.nd rfl (Or.inl rfl) (c_call (ok__law_draw T) (hr.mono (by decide)) T.g__law_draw T.k__law_draw takes0 (pa_cons (pv 0) (pa_cons pe_int pa_nil))))
      (pss_cons (ps_if (pt_cmpR op_lt (pv 1) pe_int (nomark _))
      (pss_one (ps_ret (c_call (ok__law_draw T) (hr.mono (by decide)) T.g__law_draw T.k__law_draw takes0 (pa_cons (pv 0) (pa_cons (pe_ix ix_list (pe_lst (pa_cons pe_int (pa_cons pe_int (pa_cons pe_int pa_nil)))) (pv 1) (fun _ _ => rfl)) pa_nil)))))
      pss_nil)
      (pss_cons (ps_set (i := 2) sc__law_near.nd rfl (Or.inl rfl) pe_int)
      (pss_cons (ps_for (passes_of rfl) rfl (pi_range1 (by rfl) T.n_range (pa_cons pe_int pa_nil)) (pg_name (i := 3) sc__law_near.nd rfl (Or.inl rfl))
      (pss_one (ps_set (i := 2) sc__law_near.nd rfl (Or.inl rfl) (pe_op op_add (pe_op op_mul (pv 2) (pe_op op_pow pe_int pe_int)) (c_call (ok__law_draw T) (hr.mono (by decide)) T.g__law_draw T.k__law_draw takes0 (pa_cons (pv 0) (pa_cons (pe_op op_pow pe_int pe_int) pa_nil)))))))
      (pss_one (ps_ret (pe_op op_mod (pv 2) (pe_op op_pow pe_int pe_int)))))))), ?_⟩
    refine ⟨_, rfl, p, 4, rfl, hp, by decide, by decide, fun way H1 w0 w1 P1 => ?_⟩
    refine ⟨_, rfl, _, _, rfl, rfl, _, rfl, ite2 (fun c => ?_) (fun c => ?_)⟩
    · have c3 : way < 3 := of_decide_eq_true c
      refine ⟨_, rfl, by show 3 ≤ sizeLine; decide, fun l nl => ?_⟩
      obtain ⟨x, hx, ex⟩ := at_mem (xs := [.int 5, .int 60, .int 3000]) w0 (by show way < 3; exact c3)
      have P2 := pot_new (o := .lst [.int 5, .int 60, .int 3000]) P1 nl
      obtain ⟨m, rfl, m0, m1⟩ : ∃ m : Int, x = .int m ∧ 0 < m ∧ m ≤ 3000 := by
        simp only [List.mem_cons, List.not_mem_nil, or_false] at hx
        rcases hx with rfl | rfl | rfl
        · exact ⟨5, rfl, by decide, by decide⟩
        · exact ⟨60, rfl, by decide, by decide⟩
        · exact ⟨3000, rfl, by decide, by decide⟩
      refine ⟨_, rfl, l, _, _, _, rfl, rfl, sq_lst upd_same, ex, p, m, rfl, P2.1, m0, by omega, fun d H3 d0 d1 P3 => ?_⟩
      obtain ⟨n, rfl⟩ := Int.eq_ofNat_of_zero_le d0
      exact q n H3 (Nat.lt_trans (show n < 3000 by omega) (by decide +kernel)) (P2.trans P3)
    · refine ⟨_, rfl, by decide, by decide, for_range (fun i σ H' => PotOn H H' p ∧ ∃ (f : Nat) (v3 : Option V), σ = [some (.ref p), some (.int way), some (.int (f : Nat)), v3]) ⟨P1, 0, _, rfl⟩ ?_ ?_⟩
      · rintro i σ H2 hi ⟨P2, f, v3, rfl⟩
        refine ⟨_, rfl, _, _, rfl, rfl, ⟨by decide, by decide, by decide⟩, _, _, rfl, rfl, .inr (by decide), _, rfl, _, _, rfl, rfl, ⟨by decide, by decide, by decide⟩, p, _, rfl, P2.1, by decide, by decide, fun d H3 d0 d1 P3 => ⟨_, _, rfl, rfl, P2.trans P3, ?_⟩⟩
        obtain ⟨n, rfl⟩ := Int.eq_ofNat_of_zero_le d0
        refine ⟨f * 10 ^ 9 + n, some (.int (0 + (i : Nat))), ?_⟩
        have e : ((f * 10 ^ 9 + n : Nat) : Int) = ((f : Nat) : Int) * (10 : Int) ^ (9 : Int).toNat + ((n : Nat) : Int) := by
          rw [Int.natCast_add, Int.natCast_mul]
          rfl
        rw [e]
        rfl
      · rintro σ H2 ⟨P2, f, v3, rfl⟩
        refine ⟨_, rfl, _, _, rfl, rfl, ⟨by decide, by decide, by decide⟩, _, _, rfl, rfl, (by show (0 : Int) < 10 ^ 56; decide), ?_⟩
        have e : ((f : Nat) : Int) % (10 : Int) ^ (56 : Int).toNat = ((f % 10 ^ 56 : Nat) : Int) := by
          rw [Int.natCast_emod]
          rfl
        show Q (.int (((f : Nat) : Int) % (10 : Int) ^ (56 : Int).toNat)) H2
        rw [e]
        exact q _ H2 (Nat.mod_lt _ (by decide +kernel)) P2

theorem ok__law_near {P : Program} {w : World} {K : PySem.W.Frag} {mg : Str → Option Value} {base : Heap} (T : Env K mg) : Fc P w K mg base 2 (He.ga K "_law_near") [] (sp__law_near K) := by
  obtain ⟨fd, D, F⟩ := fb__law_near T
  exact F.all (D.bindsN fun _ _ _ _ _ _ us hl => match us, hl with | [_], _ => rfl)
end
section
def sp__law_minutes (K : PySem.W.Frag) : Sp := fun vs H Q _ => ∃ p, vs = [.ref p] ∧ Pot H p ∧ ∀ (a : Addr) (ns : List Nat) H', H a = none → a ≠ p → H' a = some (.lst (natV ns)) → ns ≠ [] → ns.length ≤ 8 → ns.Pairwise (· < ·) → (∀ n ∈ ns, n < 10 ^ 58) → PotOn H H' p → Q (.ref a) H'
theorem fb__law_minutes {P : Program} {w : World} {K : PySem.W.Frag} {mg : Str → Option Value} {base : Heap} (T : Env K mg) : ∃ fd, FunD K "_law_minutes" "_law_minutes" (defArgs s__law_minutes) (defBody s__law_minutes) (defScope s__law_minutes) [] [] (He.ga K "_law_minutes") fd ∧ Fb P w K mg base 3 (He.ga K "_law_minutes") fd ["_law_pot_here"] (sp__law_minutes K) := by
  obtain ⟨fd, F⟩ := T.f__law_minutes
  refine ⟨fd, F, fb_of F sc__law_minutes (fun vs H Q E h => ?_) (fun cdv A outer s H vs Q E hr h => ?_)⟩
  · obtain ⟨p, rfl, _⟩ := h
    rfl
  · obtain ⟨p, rfl, hp, q⟩ := h
    refine ⟨_, (pss_cons (ps_set (i := 1) sc__law_minutes.nd rfl (Or.inl rfl) (pe_lst pa_nil))
      (pss_cons (ps_set (i := 2) sc__law_minutes.nd rfl (Or.inl rfl) (c_call (ok__law_near T) (hr.mono (by decide)) T.g__law_near T.k__law_near takes0 (pa_cons (pv 0) pa_nil)))
      (pss_cons (ps_for (passes_of rfl) rfl (pi_range1 (by rfl) T.n_range (pa_cons (pe_op op_add pe_int (c_call (ok__law_draw T) (hr.mono (by decide)) T.g__law_draw T.k__law_draw takes0 (pa_cons (pv 0) (pa_cons pe_int pa_nil)))) pa_nil)) (pg_name (i := 3) sc__law_minutes.nd rfl (Or.inl rfl))
      (pss_cons (ps_expr (pe_bm PySem.F.plainAttrs_list PySem.F.slot_list_append PySem.F.type_list_append mt_append (pv 1) (pa_cons (pv 2) pa_nil)))
      (pss_one (ps_set (i := 2) sc__law_minutes.nd rfl (Or.inl rfl) (pe_op op_add (pe_op op_add (pv 2) pe_int) (c_call (ok__law_near T) (hr.mono (by decide)) T.g__law_near T.k__law_near takes0 (pa_cons (pv 0) pa_nil)))))))
      (pss_one (ps_ret (pv 1)))))), ?_⟩
    refine ⟨by show 0 ≤ sizeLine; decide, fun f nf => ?_⟩
    have fp : f ≠ p := pot_ne (.refl hp) nf
    have P1 := pot_new (o := .lst []) (.refl hp) nf
    refine ⟨_, rfl, p, rfl, P1.1, fun n0 H2 b0 P2 => ?_⟩
    have P12 := P1.trans P2
    refine ⟨_, rfl, p, 8, rfl, P2.1, by decide, by decide, fun d H3 d0 d1 P3 => ⟨_, _, rfl, rfl, _, rfl, by omega, by omega, for_range (fun i σ H' => PotOn H H' p ∧ ∃ (ns : List Nat) (h : Nat) (v3 : Option V), σ = [some (.ref p), some (.ref f), some (.int (h : Nat)), v3] ∧ H' f = some (.lst (natV ns)) ∧ ns.length = i ∧ ns.Pairwise (· < ·) ∧ (∀ n ∈ ns, n < h) ∧ h < (i + 1) * 10 ^ 57) ⟨P12.trans P3, [], n0, _, rfl, P3.2 _ _ fp (P2.2 _ _ fp upd_same), rfl, .nil, (fun n z => nomatch z), by omega⟩ ?_ ?_⟩⟩
    · rintro i σ H4 hi ⟨P4, ns, h, v3, rfl, hf, ln, srt, hb, hh⟩
      have i8 : i < 8 := by omega
      refine ⟨_, rfl, .inl ⟨rfl, _, sq_lst hf⟩, _, rfl, f, _, _, rfl, rfl, hf, small_len (by rw [natV_len]; omega), ?_⟩
      have P5 := pot_upd (o := .lst (natV ns ++ [.int (h : Nat)])) P4 nf fp
      refine ⟨_, rfl, _, _, rfl, rfl, _, rfl, p, rfl, P5.1, fun n H6 bn P6 => ⟨_, _, rfl, rfl, P5.trans P6, ns ++ [h], h + 1 + n, some (.int (0 + (i : Nat))), ?_, ?_, by rw [List.length_append, ln]; rfl, ?_, ?_, ?_⟩⟩
      · have e : ((h + 1 + n : Nat) : Int) = ((h : Nat) : Int) + 1 + ((n : Nat) : Int) := by omega
        rw [e]
        rfl
      · refine P6.2 _ _ fp ?_
        rw [upd_same]
        unfold natV
        rw [List.map_append]
        rfl
      · refine List.pairwise_append.mpr ⟨srt, List.pairwise_singleton _ _, fun a ha b hb' => ?_⟩
        rw [List.mem_singleton.mp hb']
        exact hb a ha
      · intro m hm
        rcases List.mem_append.mp hm with hm | hm
        · have := hb m hm
          omega
        · rw [List.mem_singleton.mp hm]
          omega
      · have e : (i + 1 + 1) * 10 ^ 57 = (i + 1) * 10 ^ 57 + 10 ^ 57 := by rw [Nat.add_mul (i + 1) 1, Nat.one_mul]
        rw [e]
        omega
    · rintro σ H4 ⟨P4, ns, h, v3, rfl, hf, ln, srt, hb, hh⟩
      refine ⟨_, rfl, q f ns H4 nf fp hf ?_ (by omega) srt (fun n hn => ?_) P4⟩
      · intro z
        rw [z] at ln
        have : (0 : Nat) = (1 + d).toNat := ln
        omega
      · have h1 := hb n hn
        have h2 : ((1 + d).toNat + 1) * 10 ^ 57 ≤ 9 * 10 ^ 57 := Nat.mul_le_mul_right _ (by omega)
        omega

theorem ok__law_minutes {P : Program} {w : World} {K : PySem.W.Frag} {mg : Str → Option Value} {base : Heap} (T : Env K mg) : Fc P w K mg base 3 (He.ga K "_law_minutes") [] (sp__law_minutes K) := by
  obtain ⟨fd, D, F⟩ := fb__law_minutes T
  exact F.all (D.bindsN fun _ _ _ _ _ _ us hl => match us, hl with | [_], _ => rfl)
end
section
def sp__law_over (K : PySem.W.Frag) : Sp := fun vs H Q _ => ∃ (p : Addr) (as : List Addr) (ns : List Nat) (m s : Nat) (way : Int), vs = [.ref p, .int (m : Nat), .int (s : Nat), .int way] ∧ SqA H p (as.map V.ref) ∧ AtsAt K H as ns ∧ ns.Pairwise (· < ·) ∧ ns ≠ [] ∧ ns.length ≤ 100 ∧ 2 ≤ m ∧ m * ns.length ≤ 1440 ∧ ns.getLastD 0 < s + ns.headD 0 ∧ 1 ≤ s ∧ ∀ x H', Ex H H' → H x = none → OverAt K H' x as ns m s → Q (.ref x) H'
theorem fb__law_over {P : Program} {w : World} {K : PySem.W.Frag} {mg : Str → Option Value} {base : Heap} (T : Env K mg) : ∃ fd, FunD K "_law_over" "_law_over" (defArgs s__law_over) (defBody s__law_over) (defScope s__law_over) [] [] (He.ga K "_law_over") fd ∧ Fb P w K mg base 6 (He.ga K "_law_over") fd ["_law_handed", "_law_times", "_law_later", "_law_way"] (sp__law_over K) := by
  obtain ⟨fd, F⟩ := T.f__law_over
  refine ⟨fd, F, fb_of F sc__law_over (fun vs H Q E h => ?_) (fun cdv A outer s H vs Q E hr h => ?_)⟩
  · obtain ⟨p, as, ns, m, s, way, rfl, _⟩ := h
    rfl
  · obtain ⟨p, as, ns, m, s_, way, rfl, hp, hA, hs, h0, hl, hm, hml, hst, hs1, q⟩ := h
    refine ⟨_, (Evl.pss_cut (ps_if (PW.pt (pw_and (pt_cmpR op_eq (pv 3) pe_int (nomark _)) (pw_and (pt_cmpR op_eq (pv 1) pe_int (nomark _)) (pw_and1 (pt_cmpR op_eq (pv 2) pe_int (nomark _))))))
      (pss_one (ps_ret (c_make T.mk_Over (ok_Over_init_2 T) (hr.mono (by decide)) T.g_Over takes0 (pa_cons (pv 0) pa_nil))))
      pss_nil)
      (Evl.pss_cut (ps_if (PW.pt (pw_and (pt_cmpR op_gt (pv 3) pe_int (nomark _)) (pw_and1 (pt_cmpR op_eq (pv 2) pe_int (nomark _)))))
      (pss_one (ps_ret (c_makeK T.mk_Over (ok_Over_init_2_many T) (hr.mono (by decide)) T.g_Over takes0 (pa_cons (pv 0) pa_nil) (pk_cons (pv 1) pk_nil))))
      pss_nil)
      (Evl.pss_cut (ps_if (PW.pt (pw_and (pt_cmpR op_eq (pv 3) pe_int (nomark _)) (pw_and1 (pt_cmpR op_eq (pv 1) pe_int (nomark _)))))
      (pss_one (ps_ret (c_makeK T.mk_Over (ok_Over_init_2_step T) (hr.mono (by decide)) T.g_Over takes0 (pa_cons (pv 0) pa_nil) (pk_cons (pv 2) pk_nil))))
      pss_nil)
      (Evl.pss_cut (ps_if (pt_cmpR op_eq (pv 3) pe_int (nomark _))
      (pss_one (ps_ret (c_makeK0 T.mk_Over (ok_Over_init_1_parts_step_many T) (hr.mono (by decide)) T.g_Over takes0 (pk_cons (pv 0) (pk_cons (pv 2) (pk_cons (pv 1) pk_nil))))))
      pss_nil)
      (pss_one (ps_ret (c_make T.mk_Over (ok_Over_init T) (hr.mono (by decide)) T.g_Over takes0 (pa_cons (pv 0) (pa_cons (pv 1) (pa_cons (pv 2) pa_nil)))))))))), ?_⟩
    have fin : ∀ (x dx : Addr), H x = none → H dx = none → dx ≠ x → sp_Over_init K [.ref x, .ref p, .int (m : Nat), .int (s_ : Nat)] (upd (upd H dx (.own x)) x (.ins (OverC K) dx [])) (fun v H1 => v = .non ∧ Q (.ref x) H1) (fun _ _ _ => False) := fun x dx nx nd ne => over_new nx nd ne hp hA hs h0 hl hm hml hst hs1 fun H1 X1 O1 => ⟨rfl, q x H1 X1 nx O1⟩
    refine ⟨fun σ' H' => H' = H ∧ σ' = [some (.ref p), some (.int (m : Nat)), some (.int (s_ : Nat)), some (.int way)], ?_, ?_⟩
    · refine ⟨_, rfl, rfl, _, rfl, ite2 (fun c1 => ?_) (fun c1 => ⟨rfl, rfl⟩)⟩
      refine ⟨_, rfl, rfl, _, rfl, ite2 (fun c2 => ?_) (fun c2 => ⟨rfl, rfl⟩)⟩
      refine ⟨_, rfl, rfl, _, rfl, ite2 (fun c3 => ?_) (fun c3 => ⟨rfl, rfl⟩)⟩
      have e2 : m = 2 := by have := of_decide_eq_true c2; injection this with this; omega
      have e3 : s_ = 60 := by have := of_decide_eq_true c3; injection this with this; omega
      subst e2 e3
      exact ⟨_, rfl, fun x dx nx nd ne => ⟨rfl, fin x dx nx nd ne⟩⟩
    rintro σ' H' ⟨rfl, rfl⟩
    refine ⟨fun σ' H2 => H2 = H' ∧ σ' = [some (.ref p), some (.int (m : Nat)), some (.int (s_ : Nat)), some (.int way)], ?_, ?_⟩
    · refine ⟨_, rfl, _, _, rfl, rfl, _, rfl, ite2 (fun c1 => ?_) (fun c1 => ⟨rfl, rfl⟩)⟩
      refine ⟨_, rfl, rfl, _, rfl, ite2 (fun c3 => ?_) (fun c3 => ⟨rfl, rfl⟩)⟩
      have e3 : s_ = 60 := by have := of_decide_eq_true c3; injection this with this; omega
      subst e3
      exact ⟨_, rfl, _, rfl, rfl, fun x dx nx nd ne => ⟨rfl, fin x dx nx nd ne⟩⟩
    rintro σ' H2 ⟨rfl, rfl⟩
    refine ⟨fun σ' H3 => H3 = H2 ∧ σ' = [some (.ref p), some (.int (m : Nat)), some (.int (s_ : Nat)), some (.int way)], ?_, ?_⟩
    · refine ⟨_, rfl, rfl, _, rfl, ite2 (fun c1 => ?_) (fun c1 => ⟨rfl, rfl⟩)⟩
      refine ⟨_, rfl, rfl, _, rfl, ite2 (fun c2 => ?_) (fun c2 => ⟨rfl, rfl⟩)⟩
      have e2 : m = 2 := by have := of_decide_eq_true c2; injection this with this; omega
      subst e2
      exact ⟨_, rfl, _, rfl, rfl, fun x dx nx nd ne => ⟨rfl, fin x dx nx nd ne⟩⟩
    rintro σ' H3 ⟨rfl, rfl⟩
    refine ⟨fun σ' H4 => H4 = H3 ∧ σ' = [some (.ref p), some (.int (m : Nat)), some (.int (s_ : Nat)), some (.int way)], ?_, ?_⟩
    · refine ⟨_, rfl, rfl, _, rfl, ite2 (fun c1 => ?_) (fun c1 => ⟨rfl, rfl⟩)⟩
      exact ⟨_, rfl, _, rfl, _, rfl, rfl, fun x dx nx nd ne => ⟨rfl, fin x dx nx nd ne⟩⟩
    rintro σ' H4 ⟨rfl, rfl⟩
    exact ⟨_, rfl, _, rfl, _, rfl, fun x dx nx nd ne => ⟨rfl, fin x dx nx nd ne⟩⟩

theorem ok__law_over {P : Program} {w : World} {K : PySem.W.Frag} {mg : Str → Option Value} {base : Heap} (T : Env K mg) : Fc P w K mg base 6 (He.ga K "_law_over") [] (sp__law_over K) := by
  obtain ⟨fd, D, F⟩ := fb__law_over T
  exact F.all (D.bindsN fun _ _ _ _ _ _ us hl => match us, hl with | [_, _, _, _], _ => rfl)
end
section
def natD (ns : List Nat) : List PyData := ns.map fun n : Nat => PyData.int (n : Int)
theorem dp_nat (K : PySem.W.Frag) (H : Hp) : ∀ ns : List Nat, DpAll K H (natV ns) (natD ns)
  | [] => .nil
  | n :: ns => .cons (.int _) (dp_nat K H ns)
theorem natD_lay : ∀ ns : List Nat, PyData.canLayAll0 (natD ns) = true
  | [] => rfl
  | n :: ns => by
    show (true && PyData.canLayAll0 (natD ns)) = true
    rw [natD_lay ns]
    rfl
theorem natD_dep : ∀ ns : List Nat, PyData.depthAll (natD ns) = 0
  | [] => rfl
  | n :: ns => by
    show max 0 (PyData.depthAll (natD ns)) = 0
    rw [natD_dep ns]
    rfl
theorem shaped_nat (ns : List Nat) : SeqAt.shaped (.list (natD ns)) = true := by
  show (PyData.canLayAll0 (natD ns) && decide (PyData.depthAll (natD ns) + 1 ≤ 64)) = true
  rw [natD_lay, natD_dep]
  rfl
theorem okI_nat {n k : Nat} (h : n < 10 ^ k) (hk : k ≤ 150) : okI ((n : Nat) : Int) = true := decide_eq_true (by
  have h1 : n < 10 ^ 150 := Nat.lt_of_lt_of_le h (Nat.pow_le_pow_right (by decide) hk)
  have e : (10 : Nat) ^ 150 < 10 ^ 200 := by decide +kernel
  show ((n : Nat) : Int).natAbs < 10 ^ 200
  rw [Int.natAbs_natCast]
  omega)
theorem natD_ok {k : Nat} (hk : k ≤ 150) : ∀ ns : List Nat, (∀ n ∈ ns, n < 10 ^ k) → okL (natD ns) = true
  | [], _ => rfl
  | n :: ns, h => by
    show (okI ((n : Nat) : Int) && okL (natD ns)) = true
    rw [okI_nat (h n List.mem_cons_self) hk, natD_ok hk ns fun m hm => h m (List.mem_cons_of_mem _ hm)]
    rfl
theorem natD_sz : ∀ ns : List Nat, szL (natD ns) = 1923 * ns.length
  | [] => rfl
  | n :: ns => by
    show 1921 + 2 + szL (natD ns) = 1923 * (ns.length + 1)
    rw [natD_sz ns]
    omega
theorem shapedT_nat (ns : List Nat) : SeqAt.shaped (.tuple (natD ns)) = true := by
  show (PyData.canLayAll0 (natD ns) && decide (PyData.depthAll (natD ns) + 1 ≤ 64)) = true
  rw [natD_lay, natD_dep]
  rfl

end
section
theorem rr_at {K : PySem.W.Frag} {H : Hp} {q p : Addr} {n : Nat} {Q : VK} (hn : n < 10 ^ 60) (e : H q = some (.lst [.int (n : Nat), .ref p, .int 1])) (ep : H p = some (.lst [.int (n : Nat)])) (k : Q (.str (PyData.shown (.list [.int (n : Nat), .list [.int (n : Nat)], .int 1]))) H) : rRepr K [.ref q] H Q := by
  refine rr_data (.lst (sq_lst e) (.cons (.int _) (.cons (.lst (sq_lst ep) (.cons (.int _) .nil)) (.cons (.int _) .nil)))) ?_ ?_ ?_ k
  · show (okI ((n : Nat) : Int) && ((okI ((n : Nat) : Int) && true) && (okI 1 && true))) = true
    rw [okI_nat hn (by decide)]
    decide +kernel
  · exact Nat.le_of_ble_eq_true rfl
  · exact Nat.le_of_ble_eq_true rfl
def sp__law_at_right (K : PySem.W.Frag) : Sp := fun vs H Q _ => ∃ a n, vs = [.ref a, .int (n : Nat)] ∧ AtAt K H a n ∧ n < 10 ^ 60 ∧ ∀ H', Ex H H' → Q (.bl true) H'
theorem fb__law_at_right {P : Program} {w : World} {K : PySem.W.Frag} {mg : Str → Option Value} {base : Heap} (T : Env K mg) : ∃ fd, FunD K "_law_at_right" "_law_at_right" (defArgs s__law_at_right) (defBody s__law_at_right) (defScope s__law_at_right) [] [] (He.ga K "_law_at_right") fd ∧ Fb P w K mg base 2 (He.ga K "_law_at_right") fd ["_law_at", "_law_minute"] (sp__law_at_right K) := by
  obtain ⟨fd, F⟩ := T.f__law_at_right
  refine ⟨fd, F, fb_of F sc__law_at_right (fun vs H Q E h => ?_) (fun cdv A outer s H vs Q E hr h => ?_)⟩
  · obtain ⟨a, n, rfl, _⟩ := h
    rfl
  · obtain ⟨a, n, rfl, ⟨dx, ha⟩, hn, q⟩ := h
    refine ⟨_, (pss_cons (ps_if (PW.pt (pw_or (pt_not (pt_val (pe_callB call_isi (by rfl) T.n_isinstance (by decide +kernel) (pa_cons (pv 0) (pa_cons (pe_glob (v := .ref _) (by rfl) T.g_Short rfl) pa_nil))))) (pw_or (pt_val (pe_callB call_isi (by rfl) T.n_isinstance (by decide +kernel) (pa_cons (pv 0) (pa_cons (pe_glob (v := .ref _) (by rfl) T.g_Over rfl) pa_nil)))) (pw_or1 (pt_not (pt_val (pe_callB call_isi (by rfl) T.n_isinstance (by decide +kernel) (pa_cons (c_meth0 (pv 0) T.c_At T.m_At_moments (ok_At_moments T) (hr.mono (by decide)) takes0) (pa_cons (pe_bltn (v := .ty "list") (by rfl) T.n_list (by decide +kernel) rfl) pa_nil)))))))))
      (pss_one (ps_ret pe_bl))
      pss_nil)
      (pss_one (ps_ret (pe_cmpR op_eq (pe_callB (call_repr hr) (by rfl) T.n_repr (by decide +kernel) (pa_cons (pe_lst (pa_cons (pe_fld (pv 0) (by rfl)) (pa_cons (c_meth0 (pv 0) T.c_At T.m_At_moments (ok_At_moments T) (hr.mono (by decide)) takes0) (pa_cons (c_meth0 (pv 0) T.c_At T.m_At_pieces (ok_At_pieces T) (hr.mono (by decide)) takes0) pa_nil)))) pa_nil)) (pe_callB (call_repr hr) (by rfl) T.n_repr (by decide +kernel) (pa_cons (pe_lst (pa_cons (pv 1) (pa_cons (pe_lst (pa_cons (pv 1) pa_nil)) (pa_cons pe_int pa_nil)))) pa_nil)) (nomark _))))), ?_⟩
    refine ⟨_, rfl, .ref a, .ref (He.ga K "Short"), _, _, true, rfl, .own _, ty_ins T.i_At T.c_At ha, T.kit_At_Short, true, rfl, iteF ?_⟩
    refine ⟨_, rfl, .ref a, .ref (He.ga K "Over"), _, _, false, rfl, .own _, ty_ins T.i_At T.c_At ha, T.kit_At_Over, false, rfl, iteF ?_⟩
    refine ⟨_, rfl, a, dx, _, rfl, ha, rfl, a, n, rfl, ⟨dx, ha⟩, fun p np => ⟨.ref p, .ty "list", _, _, true, rfl, .ty "list", .base (.lst upd_same), kit_ty (by decide +kernel), true, rfl, iteF ?_⟩⟩
    have X1 := ex_new (o := .lst [.int (n : Nat)]) np
    have ha1 := X1 _ _ ha
    generalize upd H p (.lst [.int (n : Nat)]) = H1 at X1 ha1 ⊢
    refine ⟨_, rfl, a, _, dx, _, _, rfl, ha1, T.c_At, T.a_At_moment, rfl, _, rfl, a, dx, _, rfl, ha1, rfl, a, n, rfl, ⟨dx, ha1⟩, fun p2 np2 => ?_⟩
    have X2 := ex_new (o := .lst [.int (n : Nat)]) np2
    have ha2 := X2 _ _ ha1
    refine ⟨_, rfl, a, dx, _, rfl, ha2, rfl, a, n, rfl, ⟨dx, ha2⟩, by show 3 ≤ sizeLine; decide, fun q1 nq1 => ?_⟩
    have X3 := ex_new (o := .lst [.int (n : Nat), .ref p2, .int 1]) nq1
    refine rr_at hn upd_same (X3 _ _ upd_same) ?_
    refine ⟨_, rfl, _, rfl, by show 1 ≤ sizeLine; decide, fun p4 np4 => ⟨by show 3 ≤ sizeLine; decide, fun q2 nq2 => ?_⟩⟩
    have X4 := ex_new (o := .lst [.int (n : Nat)]) np4
    have X5 := ex_new (o := .lst [.int (n : Nat), .ref p4, .int 1]) nq2
    refine rr_at hn upd_same (X5 _ _ upd_same) ⟨rfl, ?_⟩
    rw [decide_eq_true rfl]
    exact q _ (X1.trans (X2.trans (X3.trans (X4.trans X5))))

theorem ok__law_at_right {P : Program} {w : World} {K : PySem.W.Frag} {mg : Str → Option Value} {base : Heap} (T : Env K mg) : Fc P w K mg base 2 (He.ga K "_law_at_right") [] (sp__law_at_right K) := by
  obtain ⟨fd, D, F⟩ := fb__law_at_right T
  exact F.all (D.bindsN fun _ _ _ _ _ _ us hl => match us, hl with | [_, _], _ => rfl)
end
section
theorem rr_natL {K : PySem.W.Frag} {H : Hp} {q : Addr} {ns : List Nat} {Q : VK} (h : ∀ n ∈ ns, n < 10 ^ 80) (l : ns.length ≤ 8000) (e : H q = some (.lst (natV ns))) (k : Q (.str (PyData.shown (.list (natD ns)))) H) : rRepr K [.ref q] H Q := by
  refine rr_data (.lst (sq_lst e) (dp_nat K H ns)) ?_ ?_ ?_ k
  · exact natD_ok (by decide) ns h
  · show szL (natD ns) + 3 ≤ 16000000
    rw [natD_sz]
    omega
  · show PyData.depthAll (natD ns) + 1 ≤ 60
    rw [natD_dep]
    decide

end
section
def sp__law_told (K : PySem.W.Frag) : Sp := fun vs H Q _ => ∃ a p as ns m s, vs = [.ref a, .ref p, .int (m : Nat), .int (s : Nat)] ∧ OverAt K H a as ns m s ∧ H p = some (.lst (natV ns)) ∧ ns.length ≤ 100 ∧ m < 10 ^ 60 ∧ s < 10 ^ 60 ∧ ∀ H', Ex H H' → Q (.bl true) H'
theorem fb__law_told {P : Program} {w : World} {K : PySem.W.Frag} {mg : Str → Option Value} {base : Heap} (T : Env K mg) : ∃ fd, FunD K "_law_told" "_law_told" (defArgs s__law_told) (defBody s__law_told) (defScope s__law_told) [] [] (He.ga K "_law_told") fd ∧ Fb P w K mg base 4 (He.ga K "_law_told") fd ["_law_over_here", "_law_minutes_here", "_law_times", "_law_later"] (sp__law_told K) := by
  obtain ⟨fd, F⟩ := T.f__law_told
  refine ⟨fd, F, fb_of F sc__law_told (fun vs H Q E h => ?_) (fun cdv A outer s H vs Q E hr h => ?_)⟩
  · obtain ⟨a, p, as, ns, m, s, rfl, _⟩ := h
    rfl
  · obtain ⟨a, p, as, ns, m, s_, rfl, hO, hp, hl, bm, bs, q⟩ := h
    refine ⟨_, (pss_cons (ps_if (PW.pt (pw_or (pt_not (pt_val (pe_callB call_isi (by rfl) T.n_isinstance (by decide +kernel) (pa_cons (pv 0) (pa_cons (pe_glob (v := .ref _) (by rfl) T.g_Short rfl) pa_nil))))) (pw_or1 (pt_val (pe_callB call_isi (by rfl) T.n_isinstance (by decide +kernel) (pa_cons (pv 0) (pa_cons (pe_glob (v := .ref _) (by rfl) T.g_At rfl) pa_nil)))))))
      (pss_one (ps_ret pe_bl))
      pss_nil)
      (pss_one (ps_ret (pe_cmpR op_eq (pe_callB (call_repr hr) (by rfl) T.n_repr (by decide +kernel) (pa_cons (pe_lst (pa_cons (pe_fld (pv 0) (by rfl)) (pa_cons (pe_fld (pv 0) (by rfl)) (pa_cons (c_meth0 (pv 0) T.c_Over T.m_Over_pieces (ok_Over_pieces T) (hr.mono (by decide)) takes0) pa_nil)))) pa_nil)) (pe_callB (call_repr hr) (by rfl) T.n_repr (by decide +kernel) (pa_cons (pe_lst (pa_cons (pv 2) (pa_cons (pv 3) (pa_cons (pe_op op_add (pe_callB call_len (by rfl) T.n_len (by decide +kernel) (pa_cons (pv 1) pa_nil)) pe_int) pa_nil)))) pa_nil)) (nomark _))))), ?_⟩
    obtain ⟨dx, kp, ha, hk, hA⟩ := id hO
    refine ⟨_, rfl, .ref a, .ref (He.ga K "Short"), _, _, true, rfl, .own _, ty_ins T.i_Over T.c_Over ha, T.kit_Over_Short, true, rfl, iteF ?_⟩
    refine ⟨_, rfl, .ref a, .ref (He.ga K "At"), _, _, false, rfl, .own _, ty_ins T.i_Over T.c_Over ha, T.kit_Over_At, false, rfl, iteF ?_⟩
    refine ⟨_, rfl, a, _, dx, _, _, rfl, ha, T.c_Over, T.a_Over_many, rfl, _, rfl, a, _, dx, _, _, rfl, ha, T.c_Over, T.a_Over_step, rfl, _, rfl, a, dx, _, rfl, ha, rfl, a, as, ns, m, s_, rfl, hO, hl, fun H1 X1 => ⟨by show 3 ≤ sizeLine; decide, fun q1 nq1 => ?_⟩⟩
    have e3 : ∀ n ∈ [m, s_, ns.length + 1], n < 10 ^ 80 := fun n hn => by
      simp only [List.mem_cons, List.not_mem_nil, or_false] at hn
      rcases hn with rfl | rfl | rfl
      · exact Nat.lt_trans bm (by decide +kernel)
      · exact Nat.lt_trans bs (by decide +kernel)
      · exact Nat.lt_of_le_of_lt (show ns.length + 1 ≤ 101 by omega) (by decide +kernel)
    have X2 := X1.trans (ex_new (o := .lst (natV [m, s_, ns.length + 1])) nq1)
    refine rr_natL (ns := [m, s_, ns.length + 1]) e3 (Nat.le_of_ble_eq_true rfl) upd_same ?_
    refine ⟨_, rfl, _, rfl, _, rfl, _, ns.length, rfl, .inl ⟨_, sq_lst (X2 _ _ hp), (natV_len ns).symm⟩, _, _, rfl, rfl, by show 3 ≤ sizeLine; decide, fun q2 nq2 => ?_⟩
    have X3 := X2.trans (ex_new (o := .lst (natV [m, s_, ns.length + 1])) nq2)
    refine rr_natL (ns := [m, s_, ns.length + 1]) e3 (Nat.le_of_ble_eq_true rfl) upd_same ⟨rfl, ?_⟩
    rw [decide_eq_true rfl]
    exact q _ X3

theorem ok__law_told {P : Program} {w : World} {K : PySem.W.Frag} {mg : Str → Option Value} {base : Heap} (T : Env K mg) : Fc P w K mg base 4 (He.ga K "_law_told") [] (sp__law_told K) := by
  obtain ⟨fd, D, F⟩ := fb__law_told T
  exact F.all (D.bindsN fun _ _ _ _ _ _ us hl => match us, hl with | [_, _, _, _], _ => rfl)
end
section
theorem eqv_natD : ∀ a b : List Nat, PyData.eqvAll (natD a) (natD b) = decide (a = b)
  | [], [] => rfl
  | [], _ :: _ => rfl
  | _ :: _, [] => rfl
  | x :: a, y :: b => by
    show (decide (((x : Nat) : Int) = ((y : Nat) : Int)) && PyData.eqvAll (natD a) (natD b)) = _
    rw [eqv_natD a b]
    by_cases h : x = y
    · subst h
      simp
    · have : ¬ ((x : Nat) : Int) = ((y : Nat) : Int) := fun z => h (by omega)
      simp [this, h]

end
section
theorem zip_ats {K : PySem.W.Frag} {H : Hp} {as : List Addr} {ns : List Nat} (h : AtsAt K H as ns) : ∀ (i : Nat) (p : Addr × Nat), (as.zip ns)[i]? = some p → AtAt K H p.1 p.2 := fun i p hp => by
  obtain ⟨h1, h2⟩ := List.getElem?_zip_eq_some.mp hp
  exact h.2 i _ _ h1 h2
theorem eqv_same (ns : List Nat) : PyData.eqv (.list (natD ns)) (.list (natD ns)) = true := by
  rw [show PyData.eqv (.list (natD ns)) (.list (natD ns)) = decide (ns = ns) from eqv_natD _ _]
  exact decide_eq_true rfl
def sp__law_lists_right (K : PySem.W.Frag) : Sp := fun vs H Q _ => ∃ (a p d h : Addr) (as : List Addr) (ns : List Nat) (m s : Nat), vs = [.ref a, .ref p, .ref d, .ref h] ∧ OverAt K H a as ns m s ∧ H p = some (.lst (natV ns)) ∧ H d = some (.lst (natV (overN ns m s))) ∧ SqA H h (as.map V.ref) ∧ h ≠ p ∧ h ≠ d ∧ ns.length ≤ 8 ∧ m ≤ 1440 ∧ m * ns.length ≤ 1440 ∧ (∀ n ∈ overN ns m s, n < 10 ^ 80) ∧ ∀ H', Oth h H H' → OverAt K H' a as ns m s → H' p = some (.lst (natV ns)) → Q (.bl true) H'
theorem fb__law_lists_right {P : Program} {w : World} {K : PySem.W.Frag} {mg : Str → Option Value} {base : Heap} (T : Env K mg) : ∃ fd, FunD K "_law_lists_right" "_law_lists_right" (defArgs s__law_lists_right) (defBody s__law_lists_right) (defScope s__law_lists_right) [] [] (He.ga K "_law_lists_right") fd ∧ Fb P w K mg base 4 (He.ga K "_law_lists_right") fd ["_law_over_here", "_law_minutes_here", "_law_due", "_law_handed"] (sp__law_lists_right K) := by
  obtain ⟨fd, F⟩ := T.f__law_lists_right
  refine ⟨fd, F, fb_of F sc__law_lists_right (fun vs H Q E h => ?_) (fun cdv A outer s H vs Q E hr h => ?_)⟩
  · obtain ⟨a, p, d, h', as, ns, m, s, rfl, _⟩ := h
    rfl
  · obtain ⟨a, p, d, h', as, ns, m, s_, rfl, hO, hp, hd, hh, hhp, hhd, hl, hm, hml, hb, q⟩ := h
    refine ⟨_, (pss_cons (ps_par (i := 4) (j := 5) (by rfl) sc__law_lists_right.nd rfl rfl (by decide) rfl rfl (pa_cons (c_meth0 (pv 0) T.c_Over T.m_Over_moments (ok_Over_moments T) (hr.mono (by decide)) takes0) (pa_cons (c_meth0 (pv 0) T.c_Over T.m_Over_parts (ok_Over_parts T) (hr.mono (by decide)) takes0) pa_nil)) (by rfl))
      (pss_cons (ps_if (PW.pt (pw_or (pt_not (pt_val (pe_callB call_isi (by rfl) T.n_isinstance (by decide +kernel) (pa_cons (pv 4) (pa_cons (pe_bltn (v := .ty "list") (by rfl) T.n_list (by decide +kernel) rfl) pa_nil))))) (pw_or1 (pt_cmpR op_ne (pe_callB (call_repr hr) (by rfl) T.n_repr (by decide +kernel) (pa_cons (pv 4) pa_nil)) (pe_callB (call_repr hr) (by rfl) T.n_repr (by decide +kernel) (pa_cons (pv 2) pa_nil)) (nomark _)))))
      (pss_one (ps_ret pe_bl))
      pss_nil)
      (pss_cons (ps_if (PW.pt (pw_or (pt_not (pt_val (pe_callB call_isi (by rfl) T.n_isinstance (by decide +kernel) (pa_cons (pv 5) (pa_cons (pe_bltn (v := .ty "list") (by rfl) T.n_list (by decide +kernel) rfl) pa_nil))))) (pw_or1 (pt_not (pt_val (pe_callB (cr_all rfl) (by rfl) T.n_all (by decide +kernel) (pa_cons (pe_lc (own := [("_law_one", 6)]) (by rfl) sc__law_lists_right.nd (pi_list (pv 5)) (blkOk_by (own := [("_law_one", 6)]) (N := ["_law_over_here", "_law_minutes_here", "_law_due", "_law_handed", "_law_found", "_law_ats", "_law_one"]) (sc := defScope s__law_lists_right) (by decide +kernel)) (fun _ _ _ _ _ => (pg_name (i := 6) sc__law_lists_right.nd rfl (Or.inl rfl))) (fun _ _ _ _ _ => pts_nil) (fun _ _ _ _ _ => (pe_callB (call_isiK K) (by rfl) T.n_isinstance (by decide +kernel) (pa_cons (pv 6) (pa_cons (pe_glob (v := .ref _) (by rfl) T.g_At rfl) pa_nil))))) pa_nil)))))))
      (pss_one (ps_ret pe_bl))
      pss_nil)
      (pss_cons (ps_if (pt_cmpR (op_neD hr.rm.units) (pe_lc (own := [("_law_one", 6)]) (by rfl) sc__law_lists_right.nd (pi_list (pv 5)) (blkOk_by (own := [("_law_one", 6)]) (N := ["_law_over_here", "_law_minutes_here", "_law_due", "_law_handed", "_law_found", "_law_ats", "_law_one"]) (sc := defScope s__law_lists_right) (by decide +kernel)) (fun _ _ _ _ _ => (pg_name (i := 6) sc__law_lists_right.nd rfl (Or.inl rfl))) (fun _ _ _ _ _ => pts_nil) (fun _ _ _ _ _ => (pe_fldK K (pv 6) (by rfl)))) (pv 1) (nomark _))
      (pss_one (ps_ret pe_bl))
      pss_nil)
      (pss_cons (ps_expr (pe_bm PySem.F.plainAttrs_list PySem.F.slot_list_append PySem.F.type_list_append mt_append (pv 4) (pa_cons pe_int pa_nil)))
      (pss_cons (ps_expr (pe_bm0 PySem.F.plainAttrs_list PySem.F.slot_list_clear PySem.F.type_list_clear mt_clear (pv 5)))
      (Evl.pss_cut (ps_if (pt_val (pe_callB call_isi (by rfl) T.n_isinstance (by decide +kernel) (pa_cons (pv 3) (pa_cons (pe_bltn (v := .ty "list") (by rfl) T.n_list (by decide +kernel) rfl) pa_nil))))
      (pss_cons (ps_expr (pe_bm0 PySem.F.plainAttrs_list PySem.F.slot_list_reverse PySem.F.type_list_reverse mt_reverse (pv 3)))
      (pss_one (ps_expr (pe_bm PySem.F.plainAttrs_list PySem.F.slot_list_append PySem.F.type_list_append mt_append (pv 3) (pa_cons pe_non pa_nil)))))
      pss_nil)
      (pss_cons (ps_if (PW.pt (pw_or (pt_cmpR (op_neD hr.rm.units) (c_meth0 (pv 0) T.c_Over T.m_Over_moments (ok_Over_moments T) (hr.mono (by decide)) takes0) (pv 2) (nomark _)) (pw_or1 (pt_cmpR (op_neD hr.rm.units) (pe_lc (own := [("_law_one", 6)]) (by rfl) sc__law_lists_right.nd (pi_list (c_meth0 (pv 0) T.c_Over T.m_Over_parts (ok_Over_parts T) (hr.mono (by decide)) takes0)) (blkOk_by (own := [("_law_one", 6)]) (N := ["_law_over_here", "_law_minutes_here", "_law_due", "_law_handed", "_law_found", "_law_ats", "_law_one"]) (sc := defScope s__law_lists_right) (by decide +kernel)) (fun _ _ _ _ _ => (pg_name (i := 6) sc__law_lists_right.nd rfl (Or.inl rfl))) (fun _ _ _ _ _ => pts_nil) (fun _ _ _ _ _ => (pe_fldK K (pv 6) (by rfl)))) (pv 1) (nomark _)))))
      (pss_one (ps_ret pe_bl))
      pss_nil)
      (pss_one (ps_ret (pe_and (pe_cmpR (op_eqD hr.rm.units) (pv 4) (pe_op op_cat (pv 2) (pe_lst (pa_cons pe_int pa_nil))) (nomark _)) (pe_one (pe_cmpR (op_eqD hr.rm.units) (pv 5) (pe_lst pa_nil) (nomark _)))))))))))))), ?_⟩
    obtain ⟨dx, kp, ha, hk, hA⟩ := id hO
    have hz := zip_ats hA
    have hz1 : (as.zip ns).map (fun p => V.ref p.1) = as.map V.ref := by
      show (as.zip ns).map (V.ref ∘ Prod.fst) = _
      rw [← List.map_map, List.map_fst_zip (by rw [hA.1]; exact Nat.le_refl _)]
    have hz2 : (as.zip ns).filterMap (fun p => some (V.int (p.2 : Nat))) = natV ns := by
      rw [List.filterMap_eq_map']
      show (as.zip ns).map ((fun n : Nat => V.int (n : Int)) ∘ Prod.snd) = _
      rw [← List.map_map, List.map_snd_zip (by rw [hA.1]; exact Nat.le_refl _)]
      rfl
    have zl : (as.zip ns).length ≤ 8 := by rw [List.length_zip]; omega
    have ol := overN_len ns m s_
    have hk2 : h' ≠ a := fun z => by rcases hh with h | h <;> rw [z, ha] at h <;> cases h
    refine ⟨_, rfl, a, dx, _, rfl, ha, rfl, a, as, ns, m, s_, rfl, hO, by omega, hm, hml, fun f H1 X1 nf hf => ?_⟩
    refine ⟨_, rfl, a, dx, _, rfl, X1 _ _ ha, rfl, a, as, ns, m, s_, rfl, hO.mono X1, by omega, fun l nl => ⟨_, _, rfl, ?_⟩⟩
    have nl0 := ex_fresh X1 nl
    have X2 := X1.trans (ex_new (o := .lst (as.map V.ref)) nl)
    have fl : f ≠ l := ne_of_none hf nl
    have hf2 := ex_new (o := .lst (as.map V.ref)) nl _ _ hf
    have hl2 : upd H1 l (.lst (as.map V.ref)) l = some (.lst (as.map V.ref)) := upd_same
    generalize upd H1 l (.lst (as.map V.ref)) = H2 at X2 hf2 hl2 ⊢
    refine ⟨_, rfl, .ref f, .ty "list", _, _, true, rfl, .ty "list", .base (.lst hf2), kit_ty (by decide +kernel), true, rfl, iteF ?_⟩
    refine ⟨_, rfl, rr_natL hb (by omega) hf2 ?_⟩
    refine ⟨_, rfl, rr_natL hb (by omega) (X2 _ _ hd) ⟨rfl, _, rfl, iteNS rfl ?_⟩⟩
    refine ⟨_, rfl, .ref l, .ty "list", _, _, true, rfl, .ty "list", .base (.lst hl2), kit_ty (by decide +kernel), true, rfl, iteF ?_⟩
    refine ⟨_, rfl, l, rfl, ⟨_, sq_lst hl2⟩, fun A nA => lc_on as V.ref L2.walk_list (fun _ => some (.bl true)) (fun H' => Ex H2 H') (fun H' z e => ex_mut e nA) (.refl _) (by rw [hA.1]; omega) (fun H' e => sq_lst (e _ _ hl2)) (fun i x H3 acc N hx X3 hD la k => ?_) fun H3 X3 d3 => ?_⟩
    · obtain ⟨hi, _⟩ := List.getElem?_eq_some_iff.mp hx
      have gi : ns[i]? = some (ns[i]'(by have := hA.1; omega)) := List.getElem?_eq_getElem _
      obtain ⟨dy, h1⟩ := (hA.2 i x _ hx gi).mono (X2.trans X3)
      exact ⟨rfl, _, rfl, .ref x, .ref (He.ga K "At"), _, _, true, rfl, .own _, ty_ins T.i_At T.c_At h1, T.kit_At_At, acc, hD, la, k H3 X3 hD⟩
    have ef : as.filterMap (fun _ => some (V.bl true)) = (List.replicate as.length true).map V.bl := by
      rw [List.map_replicate, ← List.map_const', List.filterMap_eq_map']
    rw [ef] at d3
    refine ⟨A, _, rfl, sq_lst d3, ?_⟩
    rw [all_repT]
    refine ⟨true, rfl, iteF ?_⟩
    have X03 := X2.trans X3
    have hl3 : H3 l = some (.lst ((as.zip ns).map fun p => V.ref p.1)) := by rw [hz1]; exact X3 _ _ hl2
    refine ⟨_, rfl, l, rfl, ⟨_, sq_lst hl3⟩, fun B nB => lc_on (as.zip ns) (fun p => V.ref p.1) L2.walk_list (fun p => some (V.int (p.2 : Nat))) (fun H' => Ex H3 H') (fun H' z e => ex_mut e nB) (.refl _) (by omega) (fun H' e => sq_lst (e _ _ hl3)) (fun i x H4 acc N hx X4 hD la k => ?_) fun H4 X4 d4 => ?_⟩
    · obtain ⟨dy, h1⟩ := (hz i x hx).mono (X03.trans X4)
      exact ⟨rfl, _, rfl, x.1, _, dy, _, _, rfl, h1, T.c_At, T.a_At_moment, rfl, acc, hD, la, k H4 X4 hD⟩
    rw [hz2] at d4
    have X04 := X03.trans X4
    refine ⟨_, rfl, .list (natD ns), .list (natD ns), .lst (sq_lst d4) (dp_nat K _ ns), .lst (sq_lst (X04 _ _ hp)) (dp_nat K _ ns), shaped_nat ns, shaped_nat ns, _, rfl, ?_⟩
    rw [show PyData.eqv (.list (natD ns)) (.list (natD ns)) = true from by rw [show PyData.eqv (.list (natD ns)) (.list (natD ns)) = decide (ns = ns) from eqv_natD _ _]; exact decide_eq_true rfl]
    refine iteF ?_
    have hf4 := (X3.trans X4) _ _ hf2
    have hl4 := (X3.trans X4) _ _ hl2
    refine ⟨_, rfl, .inl ⟨rfl, _, sq_lst hf4⟩, f, _, _, rfl, rfl, hf4, small_len (by rw [natV_len]; omega), ?_⟩
    have eo : natV (overN ns m s_) ++ [V.int 1] = natV (overN ns m s_ ++ [1]) := by
      unfold natV
      rw [List.map_append]
      rfl
    rw [eo]
    have lf : l ≠ f := Ne.symm fl
    have hl5 : upd H4 f (.lst (natV (overN ns m s_ ++ [1]))) l = some (.lst (as.map V.ref)) := by rw [upd_ne lf]; exact hl4
    refine ⟨_, rfl, .inl ⟨rfl, _, sq_lst hl5⟩, l, _, rfl, rfl, hl5, ?_⟩
    have hf6 : upd (upd H4 f (.lst (natV (overN ns m s_ ++ [1])))) l (.lst []) f = some (.lst (natV (overN ns m s_ ++ [1]))) := by rw [upd_ne fl]; exact upd_same
    have hl6 : upd (upd H4 f (.lst (natV (overN ns m s_ ++ [1])))) l (.lst []) l = some (.lst []) := upd_same
    have X6 : Ex H (upd (upd H4 f (.lst (natV (overN ns m s_ ++ [1])))) l (.lst [])) := fun b o e => by
      rw [upd_ne (ne_of_none e nl0), upd_ne (ne_of_none e nf)]
      exact X04 _ _ e
    generalize upd (upd H4 f (.lst (natV (overN ns m s_ ++ [1])))) l (.lst []) = H6 at hf6 hl6 X6 ⊢
    have fh : f ≠ h' := fun z => by rcases hh with h | h <;> rw [← z, nf] at h <;> cases h
    have lh : l ≠ h' := fun z => by rcases hh with h | h <;> rw [← z, nl0] at h <;> cases h
    refine ⟨fun σ' H' => Oth h' H H' ∧ OverAt K H' a as ns m s_ ∧ H' p = some (.lst (natV ns)) ∧ H' d = some (.lst (natV (overN ns m s_))) ∧ H' f = some (.lst (natV (overN ns m s_ ++ [1]))) ∧ H' l = some (.lst []) ∧ σ' = [some (.ref a), some (.ref p), some (.ref d), some (.ref h'), some (.ref f), some (.ref l), none], ?_, ?_⟩
    · rcases hh with hh | hh
      · have hh6 := X6 _ _ hh
        refine ⟨_, rfl, .ref h', .ty "list", _, _, true, rfl, .ty "list", .base (.lst hh6), kit_ty (by decide +kernel), true, rfl, iteT ?_⟩
        refine ⟨_, rfl, .inl ⟨rfl, _, sq_lst hh6⟩, h', _, rfl, rfl, hh6, ?_⟩
        refine ⟨_, rfl, .inl ⟨rfl, _, sq_lst upd_same⟩, h', _, _, rfl, rfl, upd_same, small_len (by rw [List.length_reverse, List.length_map, hA.1]; omega), ?_⟩
        rw [upd_upd]
        have kh : kp ≠ h' := fun z => by rw [z, hh] at hk; cases hk
        refine ⟨(ex_oth X6).upd, ⟨dx, kp, by rw [upd_ne (Ne.symm hk2)]; exact X6 _ _ ha, by rw [upd_ne kh]; exact X6 _ _ hk, hA.1, fun i b n x y => ?_⟩, by rw [upd_ne (Ne.symm hhp)]; exact X6 _ _ hp, by rw [upd_ne (Ne.symm hhd)]; exact X6 _ _ hd, by rw [upd_ne fh]; exact hf6, by rw [upd_ne lh]; exact hl6, rfl⟩
        obtain ⟨db, hb'⟩ := hA.2 i b n x y
        exact ⟨db, by rw [upd_ne (fun z => by rw [z, hh] at hb'; cases hb')]; exact X6 _ _ hb'⟩
      · have hh6 := X6 _ _ hh
        refine ⟨_, rfl, .ref h', .ty "list", _, _, false, rfl, .ty "list", .base (.tup hh6), kit_ty (by decide +kernel), false, rfl, iteF ?_⟩
        exact ⟨ex_oth X6, hO.mono X6, X6 _ _ hp, X6 _ _ hd, hf6, hl6, rfl⟩
    rintro σ' H7 ⟨O7, hO7, hp7, hd7, hf7, hl7, rfl⟩
    obtain ⟨dx7, kp7, ha7, hk7, hA7⟩ := id hO7
    have hz7 := zip_ats hA7
    refine ⟨_, rfl, a, dx7, _, rfl, ha7, rfl, a, as, ns, m, s_, rfl, hO7, by omega, hm, hml, fun f2 H8 X8 nf2 hf8 => ?_⟩
    refine ⟨_, rfl, .list (natD (overN ns m s_)), .list (natD (overN ns m s_)), .lst (sq_lst hf8) (dp_nat K _ _), .lst (sq_lst (X8 _ _ hd7)) (dp_nat K _ _), shaped_nat _, shaped_nat _, _, rfl, ?_⟩
    rw [eqv_same]
    refine iteF ?_
    refine ⟨_, rfl, a, dx7, _, rfl, X8 _ _ ha7, rfl, a, as, ns, m, s_, rfl, hO7.mono X8, by omega, fun l2 nl2 => ?_⟩
    have X9 := X8.trans (ex_new (o := .lst (as.map V.ref)) nl2)
    have hl9 : upd H8 l2 (.lst (as.map V.ref)) l2 = some (.lst ((as.zip ns).map fun p => V.ref p.1)) := by rw [hz1]; exact upd_same
    generalize upd H8 l2 (.lst (as.map V.ref)) = H9 at X9 hl9 ⊢
    refine ⟨l2, rfl, ⟨_, sq_lst hl9⟩, fun B nB => lc_on (as.zip ns) (fun p => V.ref p.1) L2.walk_list (fun p => some (V.int (p.2 : Nat))) (fun H' => Ex H9 H') (fun H' z e => ex_mut e nB) (.refl _) (by omega) (fun H' e => sq_lst (e _ _ hl9)) (fun i x H10 acc N hx X10 hD la k => ?_) fun H10 X10 d10 => ?_⟩
    · obtain ⟨dy, h1⟩ := (hz7 i x hx).mono (X9.trans X10)
      exact ⟨rfl, _, rfl, x.1, _, dy, _, _, rfl, h1, T.c_At, T.a_At_moment, rfl, acc, hD, la, k H10 X10 hD⟩
    rw [hz2] at d10
    have X10' := X9.trans X10
    refine ⟨_, rfl, .list (natD ns), .list (natD ns), .lst (sq_lst d10) (dp_nat K _ ns), .lst (sq_lst (X10' _ _ hp7)) (dp_nat K _ ns), shaped_nat ns, shaped_nat ns, _, rfl, ?_⟩
    rw [eqv_same]
    refine iteF ?_
    refine ⟨_, rfl, _, rfl, by show 1 ≤ sizeLine; decide, fun y1 ny1 => ?_⟩
    have X11 := X10'.trans (ex_new (o := .lst [.int 1]) ny1)
    refine ⟨d, y1, _, [.int 1], rfl, rfl, X11 _ _ hd7, upd_same, sz_le (by rw [natV_len]; show _ + 1 ≤ _; omega), fun y2 ny2 => ?_⟩
    rw [eo]
    have X12 := X11.trans (ex_new (o := .lst (natV (overN ns m s_ ++ [1]))) ny2)
    refine ⟨.list (natD (overN ns m s_ ++ [1])), .list (natD (overN ns m s_ ++ [1])), .lst (sq_lst (X12 _ _ hf7)) (dp_nat K _ _), .lst (sq_lst upd_same) (dp_nat K _ _), shaped_nat _, shaped_nat _, ?_⟩
    rw [eqv_same]
    refine ⟨true, rfl, iteT ?_⟩
    refine ⟨_, rfl, by show 0 ≤ sizeLine; decide, fun y3 ny3 => ?_⟩
    have X13 := X12.trans (ex_new (o := .lst []) ny3)
    refine ⟨.list [], .list [], .lst (sq_lst (X13 _ _ hl7)) .nil, .lst (sq_lst upd_same) .nil, rfl, rfl, ?_⟩
    have X14 := X12.trans (ex_new (o := .lst []) ny3)
    exact q _ (O7.trans (ex_oth X14)) (hO7.mono X14) (X14 _ _ hp7)

theorem ok__law_lists_right {P : Program} {w : World} {K : PySem.W.Frag} {mg : Str → Option Value} {base : Heap} (T : Env K mg) : Fc P w K mg base 4 (He.ga K "_law_lists_right") [] (sp__law_lists_right K) := by
  obtain ⟨fd, D, F⟩ := fb__law_lists_right T
  exact F.all (D.bindsN fun _ _ _ _ _ _ us hl => match us, hl with | [_, _, _, _], _ => rfl)
end
section
theorem lastD_mem {ns : List Nat} (h : ns ≠ []) : ns.getLastD 0 ∈ ns := by
  rw [List.getLastD_eq_getLast?, List.getLast?_eq_some_getLast h]
  exact List.getLast_mem h
theorem lastD_lt {ns : List Nat} {k : Nat} (h : ns ≠ []) (hb : ∀ n ∈ ns, n < k) : ns.getLastD 0 < k := hb _ (lastD_mem h)
theorem head_le_last {ns : List Nat} (h : ns.Pairwise (· < ·)) : ns.headD 0 ≤ ns.getLastD 0 := by
  cases ns with
  | nil => exact Nat.le_refl _
  | cons x r =>
    have hm := lastD_mem (ns := x :: r) (by simp)
    show x ≤ _
    rcases List.mem_cons.mp hm with e | e
    · rw [e]
      exact Nat.le_refl _
    · exact Nat.le_of_lt ((List.pairwise_cons.mp h).1 _ e)
theorem at_headN {ns : List Nat} (h : ns ≠ []) : atI (natV ns) 0 = some (.int ((ns.headD 0 : Nat) : Int)) := by
  cases ns with
  | nil => exact absurd rfl h
  | cons x r => exact atI_nat (j := 0) rfl
theorem at_lastN {ns : List Nat} (h : ns ≠ []) : atI (natV ns) (-1) = some (.int ((ns.getLastD 0 : Nat) : Int)) := by
  have e := List.dropLast_concat_getLast h
  have e2 : ns.getLastD 0 = ns.getLast h := by
    rw [List.getLastD_eq_getLast?, List.getLast?_eq_some_getLast h]
    rfl
  rw [e2]
  have e3 : natV ns = natV ns.dropLast ++ [.int ((ns.getLast h : Nat) : Int)] := by
    unfold natV
    rw [← List.map_singleton (f := fun n : Nat => V.int (n : Int)), ← List.map_append, e]
  rw [e3]
  exact atI_last _ _
theorem ats_upd {K : PySem.W.Frag} {H : Hp} {A : Addr} {o : HO} {acc : List V} {ns : List Nat} (h : ∃ as, acc = as.map V.ref ∧ AtsAt K H as ns ∧ ∀ b ∈ as, b ≠ A) : ∃ as, acc = as.map V.ref ∧ AtsAt K (upd H A o) as ns ∧ ∀ b ∈ as, b ≠ A := by
  obtain ⟨as, e, h1, h2⟩ := h
  refine ⟨as, e, ⟨h1.1, fun i a n x y => ?_⟩, h2⟩
  obtain ⟨dx, h3⟩ := h1.2 i a n x y
  exact ⟨dx, by rw [upd_ne (h2 a (List.mem_of_getElem? x))]; exact h3⟩
theorem ats_snoc {K : PySem.W.Frag} {H : Hp} {as : List Addr} {ns : List Nat} {i n : Nat} {x : Addr} (hi : ns[i]? = some n) (h : AtsAt K H as (ns.take i)) (hx : AtAt K H x n) : AtsAt K H (as ++ [x]) (ns.take (i + 1)) := by
  rw [take_snoc hi]
  refine ⟨by rw [List.length_append, List.length_append, h.1]; rfl, fun j a m e1 e2 => ?_⟩
  by_cases hj : j < as.length
  · rw [List.getElem?_append_left hj] at e1
    rw [List.getElem?_append_left (by rw [← h.1]; exact hj)] at e2
    exact h.2 j a m e1 e2
  · have hl := (List.getElem?_eq_some_iff.mp e1).1
    rw [List.length_append] at hl
    have ej : j = as.length := by
      have : j < as.length + 1 := hl
      omega
    rw [List.getElem?_append_right (by omega), ej, Nat.sub_self] at e1
    rw [List.getElem?_append_right (by rw [← h.1]; omega), ej, h.1, Nat.sub_self] at e2
    obtain rfl := Option.some.inj e1
    obtain rfl := Option.some.inj e2
    exact hx
theorem ats_pot {K : PySem.W.Frag} {H H' : Hp} {p : Addr} {as : List Addr} {ns : List Nat} (hp : Pot H p) (P : PotOn H H' p) (h : AtsAt K H as ns) : AtsAt K H' as ns := ⟨h.1, fun i a n x y => by
  obtain ⟨dx, e⟩ := h.2 i a n x y
  exact ⟨dx, P.2 _ _ (pot_other hp e (fun _ _ z => by cases z)) e⟩⟩
theorem over_oth {K : PySem.W.Frag} {H H' : Hp} {a d : Addr} {as : List Addr} {ns : List Nat} {m s : Nat} {xs : List V} (h : OverAt K H a as ns m s) (hd : H d = some (.lst xs)) (O : Oth d H H') : OverAt K H' a as ns m s := by
  obtain ⟨dx, kp, h1, h2, h3⟩ := h
  refine ⟨dx, kp, O _ _ (fun z => by rw [z, hd] at h1; cases h1) h1, O _ _ (fun z => by rw [z, hd] at h2; cases h2) h2, h3.1, fun i b n x y => ?_⟩
  obtain ⟨db, h4⟩ := h3.2 i b n x y
  exact ⟨db, O _ _ (fun z => by rw [z, hd] at h4; cases h4) h4⟩
theorem over_lt {ns : List Nat} {m s : Nat} (hb : ∀ n ∈ ns, n < 10 ^ 58) (hm : m ≤ 1440) (hs : s < 10 ^ 59) : ∀ n ∈ overN ns m s, n < 10 ^ 80 := fun n hn => by
  unfold overN at hn
  obtain ⟨t, ht, h⟩ := List.mem_flatMap.mp hn
  obtain ⟨k, hk, rfl⟩ := List.mem_map.mp h
  have h1 := hb k hk
  have h2 := List.mem_range.mp ht
  have h3 : t * s ≤ 1440 * 10 ^ 59 := Nat.mul_le_mul (by omega) (by omega)
  omega
def sp__law_right (K : PySem.W.Frag) : Sp := fun vs H Q _ => ∃ p, vs = [.ref p] ∧ Pot H p ∧ ∀ H', (∀ b o, b ≠ p → H b = some o → H' b = some o) → Q (.bl true) H'
theorem fb__law_right {P : Program} {w : World} {K : PySem.W.Frag} {mg : Str → Option Value} {base : Heap} (T : Env K mg) : ∃ fd, FunD K "_law_right" "_law_right" (defArgs s__law_right) (defBody s__law_right) (defScope s__law_right) [] [] (He.ga K "_law_right") fd ∧ Fb P w K mg base 7 (He.ga K "_law_right") fd ["_law_pot_here"] (sp__law_right K) := by
  obtain ⟨fd, F⟩ := T.f__law_right
  refine ⟨fd, F, fb_of F sc__law_right (fun vs H Q E h => ?_) (fun cdv A outer s H vs Q E hr h => ?_)⟩
  · obtain ⟨p, rfl, _⟩ := h
    rfl
  · obtain ⟨p, rfl, hp, q⟩ := h
    refine ⟨_, (pss_cons (ps_set (i := 1) sc__law_right.nd rfl (Or.inl rfl) (c_call (ok__law_draw T) (hr.mono (by decide)) T.g__law_draw T.k__law_draw takes0 (pa_cons (pv 0) (pa_cons pe_int pa_nil))))
      (pss_cons (ps_set (i := 2) sc__law_right.nd rfl (Or.inl rfl) (c_call (ok__law_minutes T) (hr.mono (by decide)) T.g__law_minutes T.k__law_minutes takes0 (pa_cons (pv 0) pa_nil)))
      (pss_cons (ps_set (i := 3) sc__law_right.nd rfl (Or.inl rfl) (pe_op op_sub (pe_ix ix_list (pv 2) (pe_un un_neg pe_int) (fun _ _ => rfl)) (pe_ix ix_list (pv 2) pe_int (fun _ _ => rfl))))
      (pss_cons (ps_set (i := 4) sc__law_right.nd rfl (Or.inl rfl) (pe_ix ix_list (pe_lst (pa_cons pe_int (pa_cons pe_int (pa_cons pe_int (pa_cons (pe_op op_sub (pe_op op_fdiv pe_int (pe_callB call_len (by rfl) T.n_len (by decide +kernel) (pa_cons (pv 2) pa_nil))) pe_int) pa_nil))))) (c_call (ok__law_draw T) (hr.mono (by decide)) T.g__law_draw T.k__law_draw takes0 (pa_cons (pv 0) (pa_cons pe_int pa_nil))) (fun _ _ => rfl)))
      (pss_cons (ps_set (i := 5) sc__law_right.nd rfl (Or.inl rfl) (pe_op op_add pe_int (c_call (ok__law_draw T) (hr.mono (by decide)) T.g__law_draw T.k__law_draw takes0 (pa_cons (pv 0) (pa_cons (pv 4) pa_nil)))))
      (pss_cons (ps_set (i := 6) sc__law_right.nd rfl (Or.inr rfl) (pe_op op_add (pe_op op_add (pv 3) pe_int) (c_call (ok__law_near T) (hr.mono (by decide)) T.g__law_near T.k__law_near takes0 (pa_cons (pv 0) pa_nil))))
      (Evl.pss_cut (ps_if (PW.pt (pw_and (pt_cmpR op_gt (pv 1) pe_int (nomark _)) (pw_and1 (pt_cmpR op_lt (pv 3) pe_int (nomark _)))))
      (pss_one (ps_set (i := 6) sc__law_right.nd rfl (Or.inr rfl) pe_int))
      pss_nil)
      (Evl.pss_cut (ps_if (pt_cmpR op_eq (pv 1) pe_int (nomark _))
      (pss_one (ps_set (i := 5) sc__law_right.nd rfl (Or.inl rfl) pe_int))
      pss_nil)
      (pss_cons (ps_setLc (i := 7) (own := [("_law_minute", 12)]) (by rfl) sc__law_right.nd rfl rfl (sw_true rfl rfl rfl (by decide +kernel)) (pi_list (pv 2)) (blkOk_by (own := [("_law_minute", 12)]) (N := ["_law_pot_here", "_law_way", "_law_minutes_here", "_law_span", "_law_most", "_law_times", "_law_later", "_law_ats", "_law_handed", "_law_over_here", "_law_due", "_law_k", "_law_minute", "_law_at"]) (sc := defScope s__law_right) (by decide +kernel)) (fun _ _ _ _ _ => (pg_name (i := 12) sc__law_right.nd rfl (Or.inl rfl))) (fun _ _ _ _ _ => pts_nil) (fun _ _ _ _ _ => (c_make T.mk_At (ok_At_init T) (hr.mono (by decide)) T.g_At takes0 (pa_cons (pv 12) pa_nil))))
      (Evl.pss_cut (ps_if (pt_cmpR op_eq (c_call (ok__law_draw T) (hr.mono (by decide)) T.g__law_draw T.k__law_draw takes0 (pa_cons (pv 0) (pa_cons pe_int pa_nil))) pe_int (nomark _))
      (pss_one (ps_setLc (i := 7) (own := [("_law_minute", 12)]) (by rfl) sc__law_right.nd rfl rfl (sw_true rfl rfl rfl (by decide +kernel)) (pi_list (pv 2)) (blkOk_by (own := [("_law_minute", 12)]) (N := ["_law_pot_here", "_law_way", "_law_minutes_here", "_law_span", "_law_most", "_law_times", "_law_later", "_law_ats", "_law_handed", "_law_over_here", "_law_due", "_law_k", "_law_minute", "_law_at"]) (sc := defScope s__law_right) (by decide +kernel)) (fun _ _ _ _ _ => (pg_name (i := 12) sc__law_right.nd rfl (Or.inl rfl))) (fun _ _ _ _ _ => pts_nil) (fun _ _ _ _ _ => (c_makeK0 T.mk_At (ok_At_init_1_moment T) (hr.mono (by decide)) T.g_At takes0 (pk_cons (pv 12) pk_nil)))))
      pss_nil)
      (pss_cons (ps_if (pt_not (pt_val (pe_callB (cr_all rfl) (by rfl) T.n_all (by decide +kernel) (pa_cons (pe_lc (own := [("_law_at", 13), ("_law_minute", 12)]) (by rfl) sc__law_right.nd (RZ.pi_zipA (by rfl) T.n_zip (pa_cons (pv 7) (pa_cons (pv 2) pa_nil))) (blkOk_by (own := [("_law_at", 13), ("_law_minute", 12)]) (N := ["_law_pot_here", "_law_way", "_law_minutes_here", "_law_span", "_law_most", "_law_times", "_law_later", "_law_ats", "_law_handed", "_law_over_here", "_law_due", "_law_k", "_law_minute", "_law_at"]) (sc := defScope s__law_right) (by decide +kernel)) (fun _ _ _ _ _ => (pg_tupK K (n := 2) rfl (pgs_cons (pg_name (i := 13) sc__law_right.nd rfl (Or.inl rfl)) (pgs_cons (pg_name (i := 12) sc__law_right.nd rfl (Or.inl rfl)) pgs_nil)))) (fun _ _ _ _ _ => pts_nil) (fun _ _ _ _ _ => (c_call (ok__law_at_right T) (hr.mono (by decide)) T.g__law_at_right T.k__law_at_right takes0 (pa_cons (pv 13) (pa_cons (pv 12) pa_nil))))) pa_nil))))
      (pss_one (ps_ret pe_bl))
      pss_nil)
      (pss_cons (ps_set (i := 8) sc__law_right.nd rfl (Or.inl rfl) (pe_ix ix_list (pe_lst (pa_cons (pe_callTy call_list_of (by rfl) T.n_list (by decide +kernel) (pa_cons (pv 7) pa_nil)) (pa_cons (pe_callTy call_tuple_of (by rfl) T.n_tuple (by decide +kernel) (pa_cons (pv 7) pa_nil)) pa_nil))) (c_call (ok__law_draw T) (hr.mono (by decide)) T.g__law_draw T.k__law_draw takes0 (pa_cons (pv 0) (pa_cons pe_int pa_nil))) (fun _ _ => rfl)))
      (pss_cons (ps_set (i := 9) sc__law_right.nd rfl (Or.inl rfl) (c_call (ok__law_over T) (hr.mono (by decide)) T.g__law_over T.k__law_over takes0 (pa_cons (pv 8) (pa_cons (pv 5) (pa_cons (pv 6) (pa_cons (pv 1) pa_nil))))))
      (pss_cons (ps_set (i := 10) sc__law_right.nd rfl (Or.inl rfl) (pe_lst pa_nil))
      (pss_cons (ps_for (passes_of rfl) rfl (pi_range1 (by rfl) T.n_range (pa_cons (pv 5) pa_nil)) (pg_name (i := 11) sc__law_right.nd rfl (Or.inr rfl))
      (pss_one (ps_expr (pe_bm PySem.F.plainAttrs_list PySem.F.slot_list_extend PySem.F.type_list_extend mt_extend (pv 10) (pa_cons (pe_lc (own := [("_law_minute", 12)]) (by rfl) sc__law_right.nd (pi_list (pv 2)) (blkOk_by (own := [("_law_minute", 12)]) (N := ["_law_pot_here", "_law_way", "_law_minutes_here", "_law_span", "_law_most", "_law_times", "_law_later", "_law_ats", "_law_handed", "_law_over_here", "_law_due", "_law_k", "_law_minute", "_law_at"]) (sc := defScope s__law_right) (by decide +kernel)) (fun _ _ _ _ _ => (pg_name (i := 12) sc__law_right.nd rfl (Or.inl rfl))) (fun _ _ _ _ _ => pts_nil) (fun _ _ _ _ _ => (pe_op op_add (pv 12) (pe_op op_mul (pv 11) (pv 6))))) pa_nil)))))
      (pss_cons (ps_if (PW.pt (pw_or (pt_not (pt_val (c_call (ok__law_told T) (hr.mono (by decide)) T.g__law_told T.k__law_told takes0 (pa_cons (pv 9) (pa_cons (pv 2) (pa_cons (pv 5) (pa_cons (pv 6) pa_nil))))))) (pw_or1 (pt_cmpR (op_neI hr.rm.units) (pe_callTy call_list_of (by rfl) T.n_list (by decide +kernel) (pa_cons (pv 8) pa_nil)) (pv 7) (nomark _)))))
      (pss_one (ps_ret pe_bl))
      pss_nil)
      (pss_one (ps_ret (pe_and (c_call (ok__law_lists_right T) (hr.mono (by decide)) T.g__law_lists_right T.k__law_lists_right takes0 (pa_cons (pv 9) (pa_cons (pv 2) (pa_cons (pv 10) (pa_cons (pv 8) pa_nil))))) (pe_one (c_call (ok__law_told T) (hr.mono (by decide)) T.g__law_told T.k__law_told takes0 (pa_cons (pv 9) (pa_cons (pv 2) (pa_cons (pv 5) (pa_cons (pv 6) pa_nil))))))))))))))))))))))))), ?_⟩
    refine ⟨_, rfl, p, 4, rfl, hp, by decide, by decide, fun way H1 w0 w1 P1 => ?_⟩
    refine ⟨_, rfl, p, rfl, P1.1, fun mi ns H2 nmi mip hmi h0 hl srt hb P2 => ?_⟩
    have P12 := P1.trans P2
    have len1 : 0 < ns.length := List.length_pos_iff.mpr h0
    have hle := head_le_last srt
    have bL : ns.getLastD 0 < 10 ^ 58 := lastD_lt h0 hb
    refine ⟨_, rfl, _, rfl, mi, _, _, _, rfl, rfl, sq_lst hmi, at_lastN h0, _, rfl, mi, _, _, _, rfl, rfl, sq_lst hmi, at_headN h0, _, _, rfl, rfl, ?_⟩
    refine ⟨_, rfl, _, ns.length, rfl, .inl ⟨_, sq_lst hmi, (natV_len ns).symm⟩, _, _, rfl, rfl, ⟨by omega, by omega⟩, _, _, rfl, rfl, by show 4 ≤ sizeLine; decide, fun l nl => ?_⟩
    have dq : (1440 : Int) / ((ns.length : Nat) : Int) = ((1440 / ns.length : Nat) : Int) := by
      have e7 : ((1440 : Nat) : Int) / ((ns.length : Nat) : Int) = ((1440 / ns.length : Nat) : Int) := by simp
      exact e7
    have q180 : 180 ≤ 1440 / ns.length := (Nat.le_div_iff_mul_le len1).mpr (Nat.le_trans (Nat.mul_le_mul_left 180 hl) (by decide))
    have qle : 1440 / ns.length * ns.length ≤ 1440 := Nat.div_mul_le_self _ _
    have q1440 : 1440 / ns.length ≤ 1440 := Nat.div_le_self _ _
    have lp := pot_ne P12 nl
    have P3 := pot_new (o := .lst [.int 3, .int 3, .int 3, .int ((1440 : Int) / ((ns.length : Nat) : Int) - 1)]) P12 nl
    refine ⟨_, rfl, p, 4, rfl, P3.1, by decide, by decide, fun d H4 d0 d1 P4 => ?_⟩
    obtain ⟨x, hx, ex⟩ := at_mem (xs := [.int 3, .int 3, .int 3, .int ((1440 : Int) / ((ns.length : Nat) : Int) - 1)]) d0 (by show d < 4; exact d1)
    obtain ⟨mo, rfl, mo0, mo1, mo2⟩ : ∃ mo : Nat, x = .int (mo : Nat) ∧ 0 < mo ∧ mo ≤ 1440 ∧ (mo + 1) * ns.length ≤ 1440 := by
      have t3 : (3 + 1) * ns.length ≤ 1440 := Nat.le_trans (Nat.mul_le_mul_left 4 hl) (by decide)
      simp only [List.mem_cons, List.not_mem_nil, or_false] at hx
      rcases hx with rfl | rfl | rfl | rfl
      · exact ⟨3, rfl, by decide, by decide, t3⟩
      · exact ⟨3, rfl, by decide, by decide, t3⟩
      · exact ⟨3, rfl, by decide, by decide, t3⟩
      · refine ⟨1440 / ns.length - 1, by rw [dq]; congr 1; omega, by omega, by omega, ?_⟩
        rw [show 1440 / ns.length - 1 + 1 = 1440 / ns.length by omega]
        exact qle
    refine ⟨l, _, _, _, rfl, rfl, sq_lst (P4.2 _ _ lp upd_same), ex, ?_⟩
    have P14 := P3.trans P4
    refine ⟨_, rfl, _, rfl, p, mo, rfl, P4.1, by omega, by omega, fun e H5 e0 e1 P5 => ⟨_, _, rfl, rfl, ?_⟩⟩
    obtain ⟨e, rfl⟩ := Int.eq_ofNat_of_zero_le e0
    have P15 := P14.trans P5
    refine ⟨_, rfl, _, _, rfl, rfl, _, rfl, p, rfl, P5.1, fun n H6 bn P6 => ⟨_, _, rfl, rfl, ?_⟩⟩
    have P16 := P15.trans P6
    have hmi6 := P6.2 _ _ mip (P5.2 _ _ mip (P4.2 _ _ mip (ex_new (o := .lst [.int 3, .int 3, .int 3, .int ((1440 : Int) / ((ns.length : Nat) : Int) - 1)]) nl _ _ hmi)))
    refine ⟨fun σ' H' => H' = H6 ∧ ∃ la : Nat, ns.getLastD 0 < la + ns.headD 0 ∧ 1 ≤ la ∧ la < 10 ^ 59 ∧ σ' = [some (.ref p), some (.int way), some (.ref mi), some (.int (((ns.getLastD 0 : Nat) : Int) - ((ns.headD 0 : Nat) : Int))), some (.int (mo : Nat)), some (.int ((2 + e : Nat) : Int)), some (.int (la : Nat)), none, none, none, none, none, none, none], ?_, ?_⟩
    · have e5 : (2 : Int) + ((e : Nat) : Int) = ((2 + e : Nat) : Int) := by omega
      have dflt : ∀ {σ : L2.St}, σ = [some (.ref p), some (.int way), some (.ref mi), some (.int (((ns.getLastD 0 : Nat) : Int) - ((ns.headD 0 : Nat) : Int))), some (.int (mo : Nat)), some (.int ((2 + e : Nat) : Int)), some (.int ((ns.getLastD 0 - ns.headD 0 + 1 + n : Nat) : Int)), none, none, none, none, none, none, none] → H6 = H6 ∧ ∃ la : Nat, ns.getLastD 0 < la + ns.headD 0 ∧ 1 ≤ la ∧ la < 10 ^ 59 ∧ σ = [some (.ref p), some (.int way), some (.ref mi), some (.int (((ns.getLastD 0 : Nat) : Int) - ((ns.headD 0 : Nat) : Int))), some (.int (mo : Nat)), some (.int ((2 + e : Nat) : Int)), some (.int (la : Nat)), none, none, none, none, none, none, none] := fun {σ} es => ⟨rfl, _, by omega, by omega, by omega, es⟩
      have e6 : ((ns.getLastD 0 : Nat) : Int) - ((ns.headD 0 : Nat) : Int) + 1 + ((n : Nat) : Int) = ((ns.getLastD 0 - ns.headD 0 + 1 + n : Nat) : Int) := by omega
      refine ⟨_, rfl, _, _, rfl, rfl, _, rfl, ite2 (fun c1 => ?_) (fun c1 => ?_)⟩
      · refine ⟨_, rfl, _, _, rfl, rfl, _, rfl, ite2 (fun c2 => ?_) (fun c2 => ?_)⟩
        · have c3 : ((ns.getLastD 0 : Nat) : Int) - ((ns.headD 0 : Nat) : Int) < 60 := of_decide_eq_true c2
          exact ⟨rfl, 60, by omega, by decide, by decide +kernel, by rw [← e5]; rfl⟩
        · exact dflt (by rw [← e5, ← e6]; rfl)
      · exact dflt (by rw [← e5, ← e6]; rfl)
    rintro σ' H' ⟨rfl, la, la1, la2, la3, rfl⟩
    have tml : (2 + e) * ns.length ≤ 1440 := Nat.le_trans (Nat.mul_le_mul_right _ (by omega)) mo2
    refine ⟨fun σ' H2 => H2 = H' ∧ ∃ tm : Nat, 2 ≤ tm ∧ tm * ns.length ≤ 1440 ∧ tm ≤ 1442 ∧ σ' = [some (.ref p), some (.int way), some (.ref mi), some (.int (((ns.getLastD 0 : Nat) : Int) - ((ns.headD 0 : Nat) : Int))), some (.int (mo : Nat)), some (.int ((tm : Nat))), some (.int ((la : Nat))), none, none, none, none, none, none, none], ?_, ?_⟩
    · refine ⟨_, rfl, rfl, _, rfl, ite2 (fun _ => ?_) (fun _ => ?_)⟩
      · exact ⟨rfl, 2, Nat.le_refl _, Nat.le_trans (Nat.mul_le_mul_left 2 hl) (by decide), by decide, rfl⟩
      · exact ⟨rfl, 2 + e, by omega, tml, by omega, rfl⟩
    clear tml
    rintro σ' H7 ⟨rfl, tm, tm2, tml, tm3, rfl⟩
    have tm4 : tm ≤ 1440 := Nat.le_trans (Nat.le_mul_of_pos_right tm len1) tml
    refine ⟨_, rfl, mi, rfl, ⟨_, sq_lst hmi6⟩, fun A nA => lc_any (L2.walk_list (K := K) (a := mi) (xs := natV ns)) (fun i acc G => Ex H7 G ∧ ∃ as, acc = as.map V.ref ∧ AtsAt K G as (ns.take i) ∧ ∀ b ∈ as, b ≠ A) (fun i acc G z e => ⟨ex_mut e.1 nA, ats_upd e.2⟩) ⟨.refl _, [], rfl, ⟨rfl, fun i a n x => by cases x⟩, fun b z => nomatch z⟩ (by rw [natV_len]; omega) (fun i acc G e => ?_) (fun i acc G e => sq_lst (e.1 _ _ hmi6)) (fun i x G G' acc N hi e hA la y k _ => ?_) (fun acc G e hA => ?_)⟩
    · obtain ⟨_, as, rfl, h1, _⟩ := e
      rw [List.length_map, h1.1, List.length_take]
      omega
    · obtain ⟨rfl, y⟩ := y
      obtain ⟨XG, as, rfl, h1, h2⟩ := e
      rw [natV_len] at hi
      have gi : ns[i]? = some ns[i] := List.getElem?_eq_getElem hi
      obtain rfl : x = .int ((ns[i] : Nat) : Int) := by
        unfold natV at y
        rw [List.getElem?_map, gi] at y
        exact (Option.some.inj y).symm
      refine ⟨rfl, _, rfl, fun x dx nx nd ne => at_new nx nd ne fun G2 X2 R2 => ⟨rfl, _, X2 _ _ hA, la, ?_⟩⟩
      have xA : x ≠ A := fun z => by rw [z, hA] at nx; cases nx
      exact k _ G2 (X2 _ _ hA) ⟨XG.trans X2, as ++ [x], by rw [List.map_append]; rfl, ats_snoc gi (h1.mono X2) R2, fun b hb => (List.mem_append.mp hb).elim (h2 b) fun z => by rw [List.mem_singleton.mp z]; exact xA⟩
    obtain ⟨XG, as, rfl, hAt, hAn⟩ := e
    rw [natV_len, List.take_length] at hAt
    have PG := P16.ex2 XG
    have Ap : A ≠ p := pot_ne P16 nA
    have A0 : H A = none := P16.fresh nA
    refine ⟨fun σ' G' => PotOn H G' p ∧ ∃ A as, A ≠ p ∧ H A = none ∧ G' A = some (.lst (as.map V.ref)) ∧ AtsAt K G' as ns ∧ G' mi = some (.lst (natV ns)) ∧ A ≠ mi ∧ σ' = [some (.ref p), some (.int way), some (.ref mi), some (.int (((ns.getLastD 0 : Nat) : Int) - ((ns.headD 0 : Nat) : Int))), some (.int (mo : Nat)), some (.int ((tm : Nat))), some (.int ((la : Nat))), some (.ref A), none, none, none, none, none, none], ?_, ?_⟩
    · refine ⟨_, rfl, p, 3, rfl, PG.1, by decide, by decide, fun d H8 d0 d1 P8 => ⟨rfl, _, rfl, ite2 (fun _ => ?_) (fun _ => ?_)⟩⟩
      · have hmi8 := P8.2 _ _ mip (XG _ _ hmi6)
        have PG8 := PG.trans P8
        refine ⟨_, rfl, mi, rfl, ⟨_, sq_lst hmi8⟩, fun A2 nA2 => lc_any (L2.walk_list (K := K) (a := mi) (xs := natV ns)) (fun i acc G => Ex H8 G ∧ ∃ as, acc = as.map V.ref ∧ AtsAt K G as (ns.take i) ∧ ∀ b ∈ as, b ≠ A2) (fun i acc G z e => ⟨ex_mut e.1 nA2, ats_upd e.2⟩) ⟨.refl _, [], rfl, ⟨rfl, fun i a n x => by cases x⟩, fun b z => nomatch z⟩ (by rw [natV_len]; omega) (fun i acc G e => ?_) (fun i acc G e => sq_lst (e.1 _ _ hmi8)) (fun i x G G' acc N hi e hA la y k _ => ?_) (fun acc G2 e hA2 => ?_)⟩
        · obtain ⟨_, as, rfl, h1, _⟩ := e
          rw [List.length_map, h1.1, List.length_take]
          omega
        · obtain ⟨rfl, y⟩ := y
          obtain ⟨XG, as, rfl, h1, h2⟩ := e
          rw [natV_len] at hi
          have gi : ns[i]? = some ns[i] := List.getElem?_eq_getElem hi
          obtain rfl : x = .int ((ns[i] : Nat) : Int) := by
            unfold natV at y
            rw [List.getElem?_map, gi] at y
            exact (Option.some.inj y).symm
          refine ⟨rfl, _, rfl, rfl, fun x dx nx nd ne => ⟨rfl, at_new nx nd ne fun G2 X2 R2 => ⟨rfl, _, X2 _ _ hA, la, ?_⟩⟩⟩
          have xA : x ≠ A2 := fun z => by rw [z, hA] at nx; cases nx
          exact k _ G2 (X2 _ _ hA) ⟨XG.trans X2, as ++ [x], by rw [List.map_append]; rfl, ats_snoc gi (h1.mono X2) R2, fun b hb => (List.mem_append.mp hb).elim (h2 b) fun z => by rw [List.mem_singleton.mp z]; exact xA⟩
        obtain ⟨XG2, as2, rfl, hAt2, hAn2⟩ := e
        rw [natV_len, List.take_length] at hAt2
        exact ⟨PG8.ex2 XG2, A2, as2, pot_ne PG8 nA2, PG8.fresh nA2, hA2, hAt2, XG2 _ _ hmi8, (fun z => by rw [z, hmi8] at nA2; cases nA2), rfl⟩
      · exact ⟨PG.trans P8, A, as, Ap, A0, P8.2 _ _ Ap hA, ats_pot PG.1 P8 hAt, P8.2 _ _ mip (XG _ _ hmi6), (fun z => by rw [z, hmi6] at nA; cases nA), rfl⟩
    clear hA hAt hAn PG Ap A0 XG
    clear as
    rintro σ' H8 ⟨P8, A1, as, Ap, A0, hA, hAt, hmi8, Ami, rfl⟩
    clear nA
    refine ⟨_, rfl, _, rfl, A1, mi, as.map V.ref, natV ns, rfl, .inl ⟨sq_lst hA, sq_lst hmi8, fun D nD => lc_zip as ns V.ref (fun n : Nat => V.int n) (L2.walk_zip rfl) (by rw [List.length_map]; show min as.length (natV ns).length = _; rw [natV_len]) (fun x y => some (.bl true)) (fun H' => Ex H8 H') (fun H' z e => ex_mut e nD) (.refl _) (by rw [hAt.1]; omega) (fun H' e => ⟨sq_lst (e _ _ hA), sq_lst (e _ _ hmi8)⟩) (fun i x y u H9 acc N hx hy X9 nu hD la k => ?_) fun H9 X9 d9 => ?_⟩⟩
    · have hD2 := fun o => ex_new (o := o) nu _ _ hD
      have X9' := X9.trans (ex_new (o := .tup [.ref x, .int (y : Nat)]) nu)
      refine ⟨u, _, rfl, sq_tup upd_same, rfl, _, _, rfl, _, _, rfl, rfl, rfl, _, rfl, _, rfl, x, y, rfl, (hAt.2 i x y hx hy).mono X9', Nat.lt_trans (hb y (List.mem_of_getElem? hy)) (by decide +kernel), fun H10 X10 => ?_⟩
      exact ⟨acc, X10 _ _ (hD2 _), la, k H10 (X9'.trans X10) (X10 _ _ (hD2 _))⟩
    have ef : (as.zip ns).filterMap (fun p => some (V.bl true)) = (List.replicate (as.zip ns).length true).map V.bl := by
      rw [List.map_replicate, ← List.map_const', List.filterMap_eq_map']
    rw [ef] at d9
    refine ⟨D, _, rfl, sq_lst d9, ?_⟩
    rw [all_repT]
    refine ⟨true, rfl, iteF ?_⟩
    have P9 := P8.ex2 X9
    have hA9 := X9 _ _ hA
    have hmi9 := X9 _ _ hmi8
    have hAt9 := hAt.mono X9
    clear hA hAt hmi8 d9
    refine ⟨_, rfl, A1, _, rfl, .inl (sq_lst hA9), fun l1 nl1 => ?_⟩
    have Z1 := ex_new (o := .lst (as.map V.ref)) nl1
    have P10 := P9.ex2 Z1
    refine ⟨_, rfl, A1, _, rfl, .inl ⟨sq_lst (Z1 _ _ hA9), fun t1 nt1 => ?_⟩⟩
    have Z2 := ex_new (o := .tup (as.map V.ref)) nt1
    have P11 := P10.ex2 Z2
    refine ⟨by show 2 ≤ sizeLine; decide, fun L nL => ?_⟩
    have Z3 := ex_new (o := .lst [.ref l1, .ref t1]) nL
    have P12' := P11.ex2 Z3
    refine ⟨_, rfl, p, 2, rfl, P12'.1, by decide, by decide, fun d H10 d0 d1 P13 => ?_⟩
    have keep : ∀ {b o}, b ≠ p → H9 b = some o → H10 b = some o := fun {b o} nb e => P13.2 _ _ nb ((Z1.trans (Z2.trans Z3)) _ _ e)
    have k1 := P13.2 _ _ (pot_ne P9 nl1) ((Z2.trans Z3) _ _ upd_same)
    have k2 := P13.2 _ _ (pot_ne P10 nt1) (Z3 _ _ upd_same)
    have k3 := P13.2 _ _ (pot_ne P11 nL) upd_same
    have PH := P12'.trans P13
    have hA10 := keep Ap hA9
    have hmi10 := keep mip hmi9
    have hAt10 : AtsAt K H10 as ns := ats_pot P12'.1 P13 (hAt9.mono (Z1.trans (Z2.trans Z3)))
    obtain ⟨x, hx, ex⟩ := at_mem (xs := [.ref l1, .ref t1]) d0 (by show d < 2; exact d1)
    obtain ⟨h, rfl, hh, hp', h0', hhmi, hhA⟩ : ∃ h, x = .ref h ∧ SqA H10 h (as.map V.ref) ∧ h ≠ p ∧ H h = none ∧ h ≠ mi ∧ h ≠ A1 := by
      simp only [List.mem_cons, List.not_mem_nil, or_false] at hx
      rcases hx with rfl | rfl
      · exact ⟨l1, rfl, .inl k1, pot_ne P9 nl1, P9.fresh nl1, (fun z => by rw [z, hmi9] at nl1; cases nl1), (fun z => by rw [z, hA9] at nl1; cases nl1)⟩
      · exact ⟨t1, rfl, .inr k2, pot_ne P10 nt1, P10.fresh nt1, (fun z => by rw [z, Z1 _ _ hmi9] at nt1; cases nt1), (fun z => by rw [z, Z1 _ _ hA9] at nt1; cases nt1)⟩
    refine ⟨L, _, _, _, rfl, rfl, sq_lst k3, ex, ?_⟩
    refine ⟨_, rfl, _, rfl, _, rfl, _, rfl, h, as, ns, tm, la, way, rfl, hh, hAt10, srt, h0, by omega, tm2, tml, la1, la2, fun ov H11 X11 nov hO => ?_⟩
    refine ⟨by show 0 ≤ sizeLine; decide, fun du ndu => ?_⟩
    have Z4 := X11.trans (ex_new (o := .lst []) ndu)
    have du0 : H10 du = none := ex_fresh X11 ndu
    have hO12 := hO.mono (ex_new (o := .lst []) ndu)
    have hmi12 := Z4 _ _ hmi10
    have hA12 := Z4 _ _ hA10
    have hh12 : SqA (upd H11 du (.lst [])) h (as.map V.ref) := hh.imp (fun z => Z4 _ _ z) (fun z => Z4 _ _ z)
    have hdu12 : upd H11 du (.lst []) du = some (.lst []) := upd_same
    have dmi : mi ≠ du := ne_of_none hmi10 du0
    have dA : A1 ≠ du := ne_of_none hA10 du0
    have dh : h ≠ du := by rcases hh with z | z <;> exact ne_of_none z du0
    have duH : H du = none := PH.fresh du0
    generalize upd H11 du (.lst []) = H12 at Z4 hO12 hmi12 hA12 hh12 hdu12 ⊢
    refine ⟨_, rfl, _, rfl, by omega, by omega, for_range (fun i σ H' => Oth du H12 H' ∧ ∃ v11 v12 v13, σ = [some (.ref p), some (.int way), some (.ref mi), some (.int (((ns.getLastD 0 : Nat) : Int) - ((ns.headD 0 : Nat) : Int))), some (.int (mo : Nat)), some (.int ((tm : Nat))), some (.int ((la : Nat))), some (.ref A1), some (.ref h), some (.ref ov), some (.ref du), v11, v12, v13] ∧ H' du = some (.lst (natV (overN ns i la)))) ⟨Oth.refl _ _, _, _, _, rfl, hdu12⟩ ?_ ?_⟩
    · rintro i σ H13 hi ⟨O13, v11, v12, v13, rfl, hdu13⟩
      have hi2 : i < tm := by omega
      have hmi13 := O13 _ _ dmi hmi12
      have ll : (overN ns i la).length = i * ns.length := overN_len ns i la
      have l2 : i * ns.length ≤ tm * ns.length := Nat.mul_le_mul_right _ (by omega)
      refine ⟨_, rfl, .inl ⟨rfl, _, sq_lst hdu13⟩, _, rfl, mi, rfl, ⟨_, sq_lst hmi13⟩, fun A3 nA3 => lc_on ns (fun n : Nat => V.int n) L2.walk_list (fun n => some (.int ((n + i * la : Nat) : Int))) (fun H' => Ex H13 H') (fun H' z e => ex_mut e nA3) (.refl _) (by omega) (fun H' e => sq_lst (e _ _ hmi13)) (fun j n H14 acc N hn X14 hD lacc k => ?_) fun H14 X14 d14 => ?_⟩
      · refine ⟨rfl, _, rfl, _, rfl, _, rfl, _, _, rfl, rfl, .inl ⟨by omega, by omega⟩, _, _, rfl, rfl, acc, hD, lacc, ?_⟩
        have e : ((n : Nat) : Int) + (0 + ((i : Nat) : Int)) * ((la : Nat) : Int) = ((n + i * la : Nat) : Int) := by simp
        show N (upd H14 A3 (.lst (acc ++ [.int (((n : Nat) : Int) + (0 + ((i : Nat) : Int)) * ((la : Nat) : Int))])))
        rw [e]
        exact k H14 X14 hD
      · have ed : ns.filterMap (fun n => some (V.int ((n + i * la : Nat) : Int))) = natV (ns.map fun n => n + i * la) := by
          unfold natV
          rw [List.filterMap_eq_map', List.map_map]
          rfl
        rw [ed] at d14
        refine ⟨du, A3, _, _, rfl, rfl, X14 _ _ hdu13, d14, sz_le (by rw [natV_len, natV_len, List.length_map, ll]; omega), (O13.trans (ex_oth X14)).upd, _, _, _, rfl, ?_⟩
        rw [upd_same]
        unfold natV overN
        rw [← List.map_append, List.range_succ, List.flatMap_append]
        simp
    rintro σ H13 ⟨O13, v11, v12, v13, rfl, hdu13⟩
    rw [show ((tm : Nat) : Int).toNat = tm by omega] at hdu13
    have hO13 : OverAt K H13 ov as ns tm la := over_oth hO12 hdu12 O13
    have hmi13 := O13 _ _ dmi hmi12
    have hA13 := O13 _ _ dA hA12
    have hh13 : SqA H13 h (as.map V.ref) := hh12.imp (fun z => O13 _ _ dh z) (fun z => O13 _ _ dh z)
    have all13 : ∀ b o, b ≠ p → H b = some o → H13 b = some o := fun b o nb e => O13 _ _ (ne_of_none e duH) (Z4 _ _ (PH.2 _ _ nb e))
    have bnd : ∀ n ∈ overN ns tm la, n < 10 ^ 80 := over_lt (fun n hn => hb n hn) tm4 la3
    have tm60 : tm < 10 ^ 60 := Nat.lt_of_le_of_lt tm4 (by decide +kernel)
    have la60 : la < 10 ^ 60 := Nat.lt_trans la3 (by decide +kernel)
    refine ⟨_, rfl, _, rfl, _, rfl, _, rfl, ov, mi, as, ns, tm, la, rfl, hO13, hmi13, by omega, tm60, la60, fun H14 X14 => ⟨true, rfl, iteF ?_⟩⟩
    have hh14 : SqL K H14 h (as.map V.ref) ∨ SqT K H14 h (as.map V.ref) := hh13.imp (fun z => sq_lst (X14 _ _ z)) (fun z => sq_tup (X14 _ _ z))
    refine ⟨_, rfl, h, _, rfl, hh14, fun y ny => ⟨_, rfl, y, A1, as, rfl, rfl, sq_lst upd_same, sq_lst (ex_new ny _ _ (X14 _ _ hA13)), _, rfl, iteF ?_⟩⟩
    have X15 := X14.trans (ex_new (o := .lst (as.map V.ref)) ny)
    refine ⟨_, rfl, _, rfl, _, rfl, _, rfl, ov, mi, du, h, as, ns, tm, la, rfl, hO13.mono X15, X15 _ _ hmi13, X15 _ _ hdu13, hh13.imp (fun z => X15 _ _ z) (fun z => X15 _ _ z), hhmi, dh, hl, tm4, tml, bnd, fun H16 O16 hO16 hmi16 => ⟨true, rfl, iteT ?_⟩⟩
    refine ⟨_, rfl, _, rfl, _, rfl, _, rfl, ov, mi, as, ns, tm, la, rfl, hO16, hmi16, by omega, tm60, la60, fun H17 X17 => ?_⟩
    exact q H17 fun b o nb e => X17 _ _ (O16 _ _ (ne_of_none e h0') (X15 _ _ (all13 b o nb e)))

theorem ok__law_right {P : Program} {w : World} {K : PySem.W.Frag} {mg : Str → Option Value} {base : Heap} (T : Env K mg) : Fc P w K mg base 7 (He.ga K "_law_right") [] (sp__law_right K) := by
  obtain ⟨fd, D, F⟩ := fb__law_right T
  exact F.all (D.bindsN fun _ _ _ _ _ _ us hl => match us, hl with | [_], _ => rfl)
end
section
def sp_law (K : PySem.W.Frag) : Sp := fun vs H Q _ => ∃ (a : Addr) (ns : List Int), vs = [.ref a] ∧ SqL K H a (ns.map V.int) ∧ ns.length ≤ 63 ∧ ∀ H', Q (.bl true) H'
theorem ok_law {P : Program} {w : World} {K : PySem.W.Frag} {mg : Str → Option Value} {base : Heap} (T : Env K mg) {fd : FuncData} (F : FunD K "law" "law" (defArgs s_law) (defBody s_law) (defScope s_law) [] [] (He.ga K "law") fd) : Fb P w K mg base 8 (He.ga K "law") fd ["_law_script"] (sp_law K) := by
  refine fb_of F sc_law (fun vs H Q E h => ?_) (fun cdv A outer s H vs Q E hr h => ?_)
  · obtain ⟨a, ns, rfl, _⟩ := h
    rfl
  · obtain ⟨a, ns, rfl, hS, hl, q⟩ := h
    refine ⟨_, (pss_cons (ps_for (passes_of rfl) rfl (pi_range1 (by rfl) T.n_range (pa_cons (pe_callB (call_max2 rfl) (by rfl) T.n_max (by decide +kernel) (pa_cons pe_int (pa_cons (pe_callB (call_min2 rfl) (by rfl) T.n_min (by decide +kernel) (pa_cons (pe_callB call_len (by rfl) T.n_len (by decide +kernel) (pa_cons (pv 0) pa_nil)) (pa_cons pe_int pa_nil))) pa_nil))) pa_nil)) (pg_name (i := 1) sc_law.nd rfl (Or.inl rfl))
      (pss_one (ps_if (pt_not (pt_val (c_call (ok__law_right T) (hr.mono (by decide)) T.g__law_right T.k__law_right takes0 (pa_cons (c_call (ok__law_pot T) (hr.mono (by decide)) T.g__law_pot T.k__law_pot takes0 (pa_cons (pv 0) (pa_cons (pv 1) pa_nil))) pa_nil))))
      (pss_one (ps_ret pe_bl))
      pss_nil)))
      (pss_one (ps_ret pe_bl))), ?_⟩
    refine ⟨_, rfl, _, _, rfl, .inl ⟨_, hS, rfl⟩, _, _, rfl, _, _, rfl, _, rfl, (turns_lo 6 _ (by decide)), (turns_hi 6 _ (by decide)), for_range (fun i σ H' => Ex H H' ∧ ∃ v1, σ = [some (.ref a), v1]) ⟨.refl H, _, rfl⟩ ?_ ?_⟩
    · rintro i σ H1 hi ⟨X1, v1, rfl⟩
      have i1 : i < 1000 := turns_lt 6 _ (by decide) hi
      refine ⟨_, rfl, _, rfl, a, ns, _, rfl, ex_sql X1 hS, by omega, by omega, fun p H2 np P2 K2 => ?_⟩
      have X2 : Ex H H2 := fun b o e => by rw [K2 b (ne_of_none (X1 b o e) np)]; exact X1 b o e
      have hp0 : H p = none := ex_fresh X1 np
      refine ⟨p, rfl, P2, fun H3 k3 => ⟨true, rfl, iteF ⟨fun b o e => k3 b o (ne_of_none e hp0) (X2 b o e), _, rfl⟩⟩⟩
    · rintro σ H1 ⟨_, _, rfl⟩
      exact q _

end
end Toy
namespace Toy
open PySem PySem.Spec PyProof.Rows L2 L3
def xf : List Fx := [fun K => (He.Fa.glo "is_whole").ok K,
  fun K => (He.Fa.glo "is_moment").ok K,
  fun K => (He.Fa.glo "want_moment").ok K,
  fun K => (He.Fa.glo "clock_of").ok K,
  fun K => (He.Fa.glo "show_moment").ok K,
  fun K => (He.Fa.glo "is_number").ok K,
  fun K => (He.Fa.glo "all_rising").ok K,
  fun K => (He.Fa.glo "shorts_in").ok K,
  fun K => (He.Fa.glo "row_moments").ok K,
  fun K => (He.Fa.glo "row_many").ok K,
  fun K => (He.Fa.glo "row_pieces").ok K,
  fun K => (He.Fa.glo "row_text").ok K,
  fun K => (He.Fa.glo "_law_pot").ok K,
  fun K => (He.Fa.glo "_law_draw").ok K,
  fun K => (He.Fa.glo "_law_near").ok K,
  fun K => (He.Fa.glo "_law_minutes").ok K,
  fun K => (He.Fa.glo "_law_over").ok K,
  fun K => (He.Fa.glo "_law_at_right").ok K,
  fun K => (He.Fa.glo "_law_told").ok K,
  fun K => (He.Fa.glo "_law_lists_right").ok K,
  fun K => (He.Fa.glo "_law_right").ok K,
  fun K => (He.Fa.glo "law").ok K,
  fun K => (He.Fa.int "HOUR" (60)).ok K,
  fun K => (He.Fa.int "DAY" (1440)).ok K,
  fun K => (He.Fa.str "COLON" ":").ok K,
  fun K => (He.Fa.str "BLANK" " ").ok K,
  fun K => (He.Fa.int "MOST_MOMENTS" (1440)).ok K,
  fun K => (He.Fa.int "MOST_NESTED" (8)).ok K,
  fun K => (He.Fa.str "NO_PARTS" "-").ok K,
  fun K => (He.Fa.free "all").ok K,
  fun K => (He.Fa.free "bool").ok K,
  fun K => (He.Fa.free "divmod").ok K,
  fun K => (He.Fa.free "int").ok K,
  fun K => (He.Fa.free "isinstance").ok K,
  fun K => (He.Fa.free "len").ok K,
  fun K => (He.Fa.free "list").ok K,
  fun K => (He.Fa.free "max").ok K,
  fun K => (He.Fa.free "min").ok K,
  fun K => (He.Fa.free "range").ok K,
  fun K => (He.Fa.free "repr").ok K,
  fun K => (He.Fa.free "str").ok K,
  fun K => (He.Fa.free "sum").ok K,
  fun K => (He.Fa.free "tuple").ok K,
  fun K => (He.Fa.free "zip").ok K,
  fun K => (He.Fa.glo "GoingError").ok K,
  exoB bmV "ValueError.__new__" "GoingError",
  fun K => (He.Fa.glo "NoTime").ok K,
  exoB bmV "ValueError.__new__" "NoTime",
  fun K => (He.Fa.glo "NoPiece").ok K,
  exoB bmV "ValueError.__new__" "NoPiece",
  fun K => (He.Fa.glo "Short").ok K,
  fun K => (He.Fa.glo "At").ok K,
  fun K => (He.Fa.glo "Over").ok K,
  sysB,
  fun K => (He.Fa.cls "Short").ok K,
  insB "Short",
  fun K => (He.Fa.meth "Short" "moments").ok K,
  fun K => (He.Fa.meth "Short" "pieces").ok K,
  fun K => (He.Fa.meth "Short" "begins").ok K,
  fun K => (He.Fa.meth "Short" "ends").ok K,
  fun K => (He.Fa.meth "Short" "means_many").ok K,
  fun K => (He.Fa.meth "Short" "nested").ok K,
  kitF "Short" "Short" true,
  kitF "Short" "Over" false,
  kitF "Short" "At" false,
  kitFT "Short" "int" false,
  kitFT "Short" "bool" false,
  kitFT "Short" "list" false,
  kitFT "Short" "tuple" false,
  fun K => (He.Fa.cls "At").ok K,
  insB "At",
  fun K => (He.Fa.noat "At" "moment").ok K,
  fun K => (He.Fa.meth "At" "__init__").ok K,
  fun K => (He.Fa.meth "At" "moments").ok K,
  fun K => (He.Fa.meth "At" "pieces").ok K,
  fun K => (He.Fa.meth "At" "begins").ok K,
  fun K => (He.Fa.meth "At" "ends").ok K,
  fun K => (He.Fa.meth "At" "means_many").ok K,
  fun K => (He.Fa.meth "At" "nested").ok K,
  fun K => (He.Fa.meth "At" "__str__").ok K,
  fun K => (He.Fa.mkr "At").ok K,
  kitF "At" "Short" true,
  kitF "At" "Over" false,
  kitF "At" "At" true,
  kitFT "At" "int" false,
  kitFT "At" "bool" false,
  kitFT "At" "list" false,
  kitFT "At" "tuple" false,
  fun K => (He.Fa.cls "Over").ok K,
  insB "Over",
  fun K => (He.Fa.noat "Over" "kept").ok K,
  fun K => (He.Fa.noat "Over" "many").ok K,
  fun K => (He.Fa.noat "Over" "step").ok K,
  fun K => (He.Fa.meth "Over" "__init__").ok K,
  fun K => (He.Fa.meth "Over" "parts").ok K,
  fun K => (He.Fa.meth "Over" "moments").ok K,
  fun K => (He.Fa.meth "Over" "pieces").ok K,
  fun K => (He.Fa.meth "Over" "begins").ok K,
  fun K => (He.Fa.meth "Over" "ends").ok K,
  fun K => (He.Fa.meth "Over" "means_many").ok K,
  fun K => (He.Fa.meth "Over" "nested").ok K,
  fun K => (He.Fa.meth "Over" "__str__").ok K,
  fun K => (He.Fa.mkr "Over").ok K,
  kitF "Over" "Short" true,
  kitF "Over" "Over" true,
  kitF "Over" "At" false,
  kitFT "Over" "int" false,
  kitFT "Over" "bool" false,
  kitFT "Over" "list" false,
  kitFT "Over" "tuple" false,
  kitBF "int" "Short" false,
  kitBF "bool" "Short" false,
  kitBF "str" "Short" false,
  kitBF "NoneType" "Short" false,
  kitBF "list" "Short" false,
  kitBF "tuple" "Short" false,
  kitBF "dict" "Short" false,
  kitBF "int" "Over" false,
  kitBF "bool" "Over" false,
  kitBF "str" "Over" false,
  kitBF "NoneType" "Over" false,
  kitBF "list" "Over" false,
  kitBF "tuple" "Over" false,
  kitBF "dict" "Over" false,
  kitBF "int" "At" false,
  kitBF "bool" "At" false,
  kitBF "str" "At" false,
  kitBF "NoneType" "At" false,
  kitBF "list" "At" false,
  kitBF "tuple" "At" false,
  kitBF "dict" "At" false]
def d_is_whole : He.DefD := ⟨("is_whole", none), "is_whole", "is_whole", defArgs s_is_whole, defBody s_is_whole, defScope s_is_whole, [], []⟩
def d_is_moment : He.DefD := ⟨("is_moment", none), "is_moment", "is_moment", defArgs s_is_moment, defBody s_is_moment, defScope s_is_moment, [], []⟩
def d_want_moment : He.DefD := ⟨("want_moment", none), "want_moment", "want_moment", defArgs s_want_moment, defBody s_want_moment, defScope s_want_moment, [], []⟩
def d_clock_of : He.DefD := ⟨("clock_of", none), "clock_of", "clock_of", defArgs s_clock_of, defBody s_clock_of, defScope s_clock_of, [], []⟩
def d_show_moment : He.DefD := ⟨("show_moment", none), "show_moment", "show_moment", defArgs s_show_moment, defBody s_show_moment, defScope s_show_moment, [], []⟩
def d_is_number : He.DefD := ⟨("is_number", none), "is_number", "is_number", defArgs s_is_number, defBody s_is_number, defScope s_is_number, [], []⟩
def d_Short_moments : He.DefD := ⟨("Short", some "moments"), "moments", "Short.moments", defArgs s_Short_moments, defBody s_Short_moments, defScope s_Short_moments, [], []⟩
def d_Short_pieces : He.DefD := ⟨("Short", some "pieces"), "pieces", "Short.pieces", defArgs s_Short_pieces, defBody s_Short_pieces, defScope s_Short_pieces, [], []⟩
def d_Short_begins : He.DefD := ⟨("Short", some "begins"), "begins", "Short.begins", defArgs s_Short_begins, defBody s_Short_begins, defScope s_Short_begins, [], []⟩
def d_Short_ends : He.DefD := ⟨("Short", some "ends"), "ends", "Short.ends", defArgs s_Short_ends, defBody s_Short_ends, defScope s_Short_ends, [], []⟩
def d_Short_means_many : He.DefD := ⟨("Short", some "means_many"), "means_many", "Short.means_many", defArgs s_Short_means_many, defBody s_Short_means_many, defScope s_Short_means_many, [], []⟩
def d_Short_nested : He.DefD := ⟨("Short", some "nested"), "nested", "Short.nested", defArgs s_Short_nested, defBody s_Short_nested, defScope s_Short_nested, [], []⟩
def d_all_rising : He.DefD := ⟨("all_rising", none), "all_rising", "all_rising", defArgs s_all_rising, defBody s_all_rising, defScope s_all_rising, [], []⟩
def d_shorts_in : He.DefD := ⟨("shorts_in", none), "shorts_in", "shorts_in", defArgs s_shorts_in, defBody s_shorts_in, defScope s_shorts_in, [], []⟩
def d_row_moments : He.DefD := ⟨("row_moments", none), "row_moments", "row_moments", defArgs s_row_moments, defBody s_row_moments, defScope s_row_moments, [], []⟩
def d_row_many : He.DefD := ⟨("row_many", none), "row_many", "row_many", defArgs s_row_many, defBody s_row_many, defScope s_row_many, [], []⟩
def d_row_pieces : He.DefD := ⟨("row_pieces", none), "row_pieces", "row_pieces", defArgs s_row_pieces, defBody s_row_pieces, defScope s_row_pieces, [], []⟩
def d_row_text : He.DefD := ⟨("row_text", none), "row_text", "row_text", defArgs s_row_text, defBody s_row_text, defScope s_row_text, [], []⟩
def d_At_init : He.DefD := ⟨("At", some "__init__"), "__init__", "At.__init__", defArgs s_At_init, defBody s_At_init, defScope s_At_init, [], []⟩
def d_At_moments : He.DefD := ⟨("At", some "moments"), "moments", "At.moments", defArgs s_At_moments, defBody s_At_moments, defScope s_At_moments, [], []⟩
def d_At_pieces : He.DefD := ⟨("At", some "pieces"), "pieces", "At.pieces", defArgs s_At_pieces, defBody s_At_pieces, defScope s_At_pieces, [], []⟩
def d_At_begins : He.DefD := ⟨("At", some "begins"), "begins", "At.begins", defArgs s_At_begins, defBody s_At_begins, defScope s_At_begins, [], []⟩
def d_At_ends : He.DefD := ⟨("At", some "ends"), "ends", "At.ends", defArgs s_At_ends, defBody s_At_ends, defScope s_At_ends, [], []⟩
def d_At_means_many : He.DefD := ⟨("At", some "means_many"), "means_many", "At.means_many", defArgs s_At_means_many, defBody s_At_means_many, defScope s_At_means_many, [], []⟩
def d_At_nested : He.DefD := ⟨("At", some "nested"), "nested", "At.nested", defArgs s_At_nested, defBody s_At_nested, defScope s_At_nested, [], []⟩
def d_At_str : He.DefD := ⟨("At", some "__str__"), "__str__", "At.__str__", defArgs s_At_str, defBody s_At_str, defScope s_At_str, [], []⟩
def d_Over_init : He.DefD := ⟨("Over", some "__init__"), "__init__", "Over.__init__", defArgs s_Over_init, defBody s_Over_init, defScope s_Over_init, [.int (2), .int (60)], []⟩
def d_Over_parts : He.DefD := ⟨("Over", some "parts"), "parts", "Over.parts", defArgs s_Over_parts, defBody s_Over_parts, defScope s_Over_parts, [], []⟩
def d_Over_moments : He.DefD := ⟨("Over", some "moments"), "moments", "Over.moments", defArgs s_Over_moments, defBody s_Over_moments, defScope s_Over_moments, [], []⟩
def d_Over_pieces : He.DefD := ⟨("Over", some "pieces"), "pieces", "Over.pieces", defArgs s_Over_pieces, defBody s_Over_pieces, defScope s_Over_pieces, [], []⟩
def d_Over_begins : He.DefD := ⟨("Over", some "begins"), "begins", "Over.begins", defArgs s_Over_begins, defBody s_Over_begins, defScope s_Over_begins, [], []⟩
def d_Over_ends : He.DefD := ⟨("Over", some "ends"), "ends", "Over.ends", defArgs s_Over_ends, defBody s_Over_ends, defScope s_Over_ends, [], []⟩
def d_Over_means_many : He.DefD := ⟨("Over", some "means_many"), "means_many", "Over.means_many", defArgs s_Over_means_many, defBody s_Over_means_many, defScope s_Over_means_many, [], []⟩
def d_Over_nested : He.DefD := ⟨("Over", some "nested"), "nested", "Over.nested", defArgs s_Over_nested, defBody s_Over_nested, defScope s_Over_nested, [], []⟩
def d_Over_str : He.DefD := ⟨("Over", some "__str__"), "__str__", "Over.__str__", defArgs s_Over_str, defBody s_Over_str, defScope s_Over_str, [], []⟩
def d__law_pot : He.DefD := ⟨("_law_pot", none), "_law_pot", "_law_pot", defArgs s__law_pot, defBody s__law_pot, defScope s__law_pot, [], []⟩
def d__law_draw : He.DefD := ⟨("_law_draw", none), "_law_draw", "_law_draw", defArgs s__law_draw, defBody s__law_draw, defScope s__law_draw, [], []⟩
def d__law_near : He.DefD := ⟨("_law_near", none), "_law_near", "_law_near", defArgs s__law_near, defBody s__law_near, defScope s__law_near, [], []⟩
def d__law_minutes : He.DefD := ⟨("_law_minutes", none), "_law_minutes", "_law_minutes", defArgs s__law_minutes, defBody s__law_minutes, defScope s__law_minutes, [], []⟩
def d__law_over : He.DefD := ⟨("_law_over", none), "_law_over", "_law_over", defArgs s__law_over, defBody s__law_over, defScope s__law_over, [], []⟩
def d__law_at_right : He.DefD := ⟨("_law_at_right", none), "_law_at_right", "_law_at_right", defArgs s__law_at_right, defBody s__law_at_right, defScope s__law_at_right, [], []⟩
def d__law_told : He.DefD := ⟨("_law_told", none), "_law_told", "_law_told", defArgs s__law_told, defBody s__law_told, defScope s__law_told, [], []⟩
def d__law_lists_right : He.DefD := ⟨("_law_lists_right", none), "_law_lists_right", "_law_lists_right", defArgs s__law_lists_right, defBody s__law_lists_right, defScope s__law_lists_right, [], []⟩
def d__law_right : He.DefD := ⟨("_law_right", none), "_law_right", "_law_right", defArgs s__law_right, defBody s__law_right, defScope s__law_right, [], []⟩
def d_law : He.DefD := ⟨("law", none), "law", "law", defArgs s_law, defBody s_law, defScope s_law, [], []⟩
def fn : List He.DefD := [d_is_whole, d_is_moment, d_want_moment, d_clock_of, d_show_moment, d_is_number, d_Short_moments, d_Short_pieces, d_Short_begins, d_Short_ends, d_Short_means_many, d_Short_nested, d_all_rising, d_shorts_in, d_row_moments, d_row_many, d_row_pieces, d_row_text, d_At_init, d_At_moments, d_At_pieces, d_At_begins, d_At_ends, d_At_means_many, d_At_nested, d_At_str, d_Over_init, d_Over_parts, d_Over_moments, d_Over_pieces, d_Over_begins, d_Over_ends, d_Over_means_many, d_Over_nested, d_Over_str, d__law_pot, d__law_draw, d__law_near, d__law_minutes, d__law_over, d__law_at_right, d__law_told, d__law_lists_right, d__law_right, d_law]
abbrev R : PySem.W.OpenRow := PySem.W.OpenLaw.row PySem.Challenge.rw_shortgoings_k21_times_over
abbrev hk : PySem.W.Hook := hookX 6 xf fn
def ob (s : PySem.W.SharedT) : He.AlD := obsXG 6 xf fn (HandSHeadRun.getT s)
theorem ob_eq (s : PySem.W.SharedT) : ob s = hk.obs s.abs := obsXG_eq (HandSHeadRun.getT_eq s)
def ns0 : List PySem.Str := ["GoingError", "NoTime", "NoPiece", "HOUR", "DAY", "COLON", "BLANK", "is_whole", "is_moment", "want_moment", "clock_of", "show_moment", "MOST_MOMENTS", "MOST_NESTED", "NO_PARTS", "is_number", "Short", "all_rising", "shorts_in", "row_moments", "row_many", "row_pieces", "row_text", "At", "Over", "_law_pot", "_law_draw", "_law_near", "_law_minutes", "_law_over"]
def ns1 : List PySem.Str := ["_law_at_right", "_law_told", "_law_lists_right", "_law_right"]
def nss : List PySem.Str := ns0 ++ ns1
theorem run (w : World) : HandSHeadRun.RunEq R (PySem.W.view R.prog [38]) hk ob 8000 nss w := by
  intro os
  kernel_rfl
theorem env_of {K : PySem.W.Frag} {h : Heap} {mg : Str → Option Value} (X : K.In h) (G : h.Ns mainGlobals mg) (c : SaysX xf fn K) : Env K mg :=
  ⟨He.glo_ok X G (c.fact 0 (f := fun K => (He.Fa.glo "is_whole").ok K) rfl),
  He.glo_ok X G (c.fact 1 (f := fun K => (He.Fa.glo "is_moment").ok K) rfl),
  He.glo_ok X G (c.fact 2 (f := fun K => (He.Fa.glo "want_moment").ok K) rfl),
  He.glo_ok X G (c.fact 3 (f := fun K => (He.Fa.glo "clock_of").ok K) rfl),
  He.glo_ok X G (c.fact 4 (f := fun K => (He.Fa.glo "show_moment").ok K) rfl),
  He.glo_ok X G (c.fact 5 (f := fun K => (He.Fa.glo "is_number").ok K) rfl),
  He.glo_ok X G (c.fact 6 (f := fun K => (He.Fa.glo "all_rising").ok K) rfl),
  He.glo_ok X G (c.fact 7 (f := fun K => (He.Fa.glo "shorts_in").ok K) rfl),
  He.glo_ok X G (c.fact 8 (f := fun K => (He.Fa.glo "row_moments").ok K) rfl),
  He.glo_ok X G (c.fact 9 (f := fun K => (He.Fa.glo "row_many").ok K) rfl),
  He.glo_ok X G (c.fact 10 (f := fun K => (He.Fa.glo "row_pieces").ok K) rfl),
  He.glo_ok X G (c.fact 11 (f := fun K => (He.Fa.glo "row_text").ok K) rfl),
  He.glo_ok X G (c.fact 12 (f := fun K => (He.Fa.glo "_law_pot").ok K) rfl),
  He.glo_ok X G (c.fact 13 (f := fun K => (He.Fa.glo "_law_draw").ok K) rfl),
  He.glo_ok X G (c.fact 14 (f := fun K => (He.Fa.glo "_law_near").ok K) rfl),
  He.glo_ok X G (c.fact 15 (f := fun K => (He.Fa.glo "_law_minutes").ok K) rfl),
  He.glo_ok X G (c.fact 16 (f := fun K => (He.Fa.glo "_law_over").ok K) rfl),
  He.glo_ok X G (c.fact 17 (f := fun K => (He.Fa.glo "_law_at_right").ok K) rfl),
  He.glo_ok X G (c.fact 18 (f := fun K => (He.Fa.glo "_law_told").ok K) rfl),
  He.glo_ok X G (c.fact 19 (f := fun K => (He.Fa.glo "_law_lists_right").ok K) rfl),
  He.glo_ok X G (c.fact 20 (f := fun K => (He.Fa.glo "_law_right").ok K) rfl),
  He.glo_ok X G (c.fact 21 (f := fun K => (He.Fa.glo "law").ok K) rfl),
  gint_of X G (c.fact 22 (f := fun K => (He.Fa.int "HOUR" (60)).ok K) rfl),
  gint_of X G (c.fact 23 (f := fun K => (He.Fa.int "DAY" (1440)).ok K) rfl),
  gstr_of X G (c.fact 24 (f := fun K => (He.Fa.str "COLON" ":").ok K) rfl),
  gstr_of X G (c.fact 25 (f := fun K => (He.Fa.str "BLANK" " ").ok K) rfl),
  gint_of X G (c.fact 26 (f := fun K => (He.Fa.int "MOST_MOMENTS" (1440)).ok K) rfl),
  gint_of X G (c.fact 27 (f := fun K => (He.Fa.int "MOST_NESTED" (8)).ok K) rfl),
  gstr_of X G (c.fact 28 (f := fun K => (He.Fa.str "NO_PARTS" "-").ok K) rfl),
  He.free_ok X G (c.fact 29 (f := fun K => (He.Fa.free "all").ok K) rfl),
  He.free_ok X G (c.fact 30 (f := fun K => (He.Fa.free "bool").ok K) rfl),
  He.free_ok X G (c.fact 31 (f := fun K => (He.Fa.free "divmod").ok K) rfl),
  He.free_ok X G (c.fact 32 (f := fun K => (He.Fa.free "int").ok K) rfl),
  He.free_ok X G (c.fact 33 (f := fun K => (He.Fa.free "isinstance").ok K) rfl),
  He.free_ok X G (c.fact 34 (f := fun K => (He.Fa.free "len").ok K) rfl),
  He.free_ok X G (c.fact 35 (f := fun K => (He.Fa.free "list").ok K) rfl),
  He.free_ok X G (c.fact 36 (f := fun K => (He.Fa.free "max").ok K) rfl),
  He.free_ok X G (c.fact 37 (f := fun K => (He.Fa.free "min").ok K) rfl),
  He.free_ok X G (c.fact 38 (f := fun K => (He.Fa.free "range").ok K) rfl),
  He.free_ok X G (c.fact 39 (f := fun K => (He.Fa.free "repr").ok K) rfl),
  He.free_ok X G (c.fact 40 (f := fun K => (He.Fa.free "str").ok K) rfl),
  He.free_ok X G (c.fact 41 (f := fun K => (He.Fa.free "sum").ok K) rfl),
  He.free_ok X G (c.fact 42 (f := fun K => (He.Fa.free "tuple").ok K) rfl),
  He.free_ok X G (c.fact 43 (f := fun K => (He.Fa.free "zip").ok K) rfl),
  He.glo_ok X G (c.fact 44 (f := fun K => (He.Fa.glo "GoingError").ok K) rfl),
  exo_of (c.fact 45 (f := exoB bmV "ValueError.__new__" "GoingError") rfl),
  He.glo_ok X G (c.fact 46 (f := fun K => (He.Fa.glo "NoTime").ok K) rfl),
  exo_of (c.fact 47 (f := exoB bmV "ValueError.__new__" "NoTime") rfl),
  He.glo_ok X G (c.fact 48 (f := fun K => (He.Fa.glo "NoPiece").ok K) rfl),
  exo_of (c.fact 49 (f := exoB bmV "ValueError.__new__" "NoPiece") rfl),
  He.glo_ok X G (c.fact 50 (f := fun K => (He.Fa.glo "Short").ok K) rfl),
  He.glo_ok X G (c.fact 51 (f := fun K => (He.Fa.glo "At").ok K) rfl),
  He.glo_ok X G (c.fact 52 (f := fun K => (He.Fa.glo "Over").ok K) rfl),
  sys_of (c.fact 53 (f := sysB) rfl),
  He.cls_ok (c.fact 54 (f := fun K => (He.Fa.cls "Short").ok K) rfl),
  insC_of (c.fact 55 (f := insB "Short") rfl),
  He.meth_ok (c.fact 56 (f := fun K => (He.Fa.meth "Short" "moments").ok K) rfl),
  He.meth_ok (c.fact 57 (f := fun K => (He.Fa.meth "Short" "pieces").ok K) rfl),
  He.meth_ok (c.fact 58 (f := fun K => (He.Fa.meth "Short" "begins").ok K) rfl),
  He.meth_ok (c.fact 59 (f := fun K => (He.Fa.meth "Short" "ends").ok K) rfl),
  He.meth_ok (c.fact 60 (f := fun K => (He.Fa.meth "Short" "means_many").ok K) rfl),
  He.meth_ok (c.fact 61 (f := fun K => (He.Fa.meth "Short" "nested").ok K) rfl),
  of_decide_eq_true (c.fact 62 (f := kitF "Short" "Short" true) rfl),
  of_decide_eq_true (c.fact 63 (f := kitF "Short" "Over" false) rfl),
  of_decide_eq_true (c.fact 64 (f := kitF "Short" "At" false) rfl),
  of_decide_eq_true (c.fact 65 (f := kitFT "Short" "int" false) rfl),
  of_decide_eq_true (c.fact 66 (f := kitFT "Short" "bool" false) rfl),
  of_decide_eq_true (c.fact 67 (f := kitFT "Short" "list" false) rfl),
  of_decide_eq_true (c.fact 68 (f := kitFT "Short" "tuple" false) rfl),
  He.cls_ok (c.fact 69 (f := fun K => (He.Fa.cls "At").ok K) rfl),
  insC_of (c.fact 70 (f := insB "At") rfl),
  He.noat_ok (c.fact 71 (f := fun K => (He.Fa.noat "At" "moment").ok K) rfl),
  He.meth_ok (c.fact 72 (f := fun K => (He.Fa.meth "At" "__init__").ok K) rfl),
  He.meth_ok (c.fact 73 (f := fun K => (He.Fa.meth "At" "moments").ok K) rfl),
  He.meth_ok (c.fact 74 (f := fun K => (He.Fa.meth "At" "pieces").ok K) rfl),
  He.meth_ok (c.fact 75 (f := fun K => (He.Fa.meth "At" "begins").ok K) rfl),
  He.meth_ok (c.fact 76 (f := fun K => (He.Fa.meth "At" "ends").ok K) rfl),
  He.meth_ok (c.fact 77 (f := fun K => (He.Fa.meth "At" "means_many").ok K) rfl),
  He.meth_ok (c.fact 78 (f := fun K => (He.Fa.meth "At" "nested").ok K) rfl),
  He.meth_ok (c.fact 79 (f := fun K => (He.Fa.meth "At" "__str__").ok K) rfl),
  He.mkr_ok (c.fact 80 (f := fun K => (He.Fa.mkr "At").ok K) rfl),
  of_decide_eq_true (c.fact 81 (f := kitF "At" "Short" true) rfl),
  of_decide_eq_true (c.fact 82 (f := kitF "At" "Over" false) rfl),
  of_decide_eq_true (c.fact 83 (f := kitF "At" "At" true) rfl),
  of_decide_eq_true (c.fact 84 (f := kitFT "At" "int" false) rfl),
  of_decide_eq_true (c.fact 85 (f := kitFT "At" "bool" false) rfl),
  of_decide_eq_true (c.fact 86 (f := kitFT "At" "list" false) rfl),
  of_decide_eq_true (c.fact 87 (f := kitFT "At" "tuple" false) rfl),
  He.cls_ok (c.fact 88 (f := fun K => (He.Fa.cls "Over").ok K) rfl),
  insC_of (c.fact 89 (f := insB "Over") rfl),
  He.noat_ok (c.fact 90 (f := fun K => (He.Fa.noat "Over" "kept").ok K) rfl),
  He.noat_ok (c.fact 91 (f := fun K => (He.Fa.noat "Over" "many").ok K) rfl),
  He.noat_ok (c.fact 92 (f := fun K => (He.Fa.noat "Over" "step").ok K) rfl),
  He.meth_ok (c.fact 93 (f := fun K => (He.Fa.meth "Over" "__init__").ok K) rfl),
  He.meth_ok (c.fact 94 (f := fun K => (He.Fa.meth "Over" "parts").ok K) rfl),
  He.meth_ok (c.fact 95 (f := fun K => (He.Fa.meth "Over" "moments").ok K) rfl),
  He.meth_ok (c.fact 96 (f := fun K => (He.Fa.meth "Over" "pieces").ok K) rfl),
  He.meth_ok (c.fact 97 (f := fun K => (He.Fa.meth "Over" "begins").ok K) rfl),
  He.meth_ok (c.fact 98 (f := fun K => (He.Fa.meth "Over" "ends").ok K) rfl),
  He.meth_ok (c.fact 99 (f := fun K => (He.Fa.meth "Over" "means_many").ok K) rfl),
  He.meth_ok (c.fact 100 (f := fun K => (He.Fa.meth "Over" "nested").ok K) rfl),
  He.meth_ok (c.fact 101 (f := fun K => (He.Fa.meth "Over" "__str__").ok K) rfl),
  He.mkr_ok (c.fact 102 (f := fun K => (He.Fa.mkr "Over").ok K) rfl),
  of_decide_eq_true (c.fact 103 (f := kitF "Over" "Short" true) rfl),
  of_decide_eq_true (c.fact 104 (f := kitF "Over" "Over" true) rfl),
  of_decide_eq_true (c.fact 105 (f := kitF "Over" "At" false) rfl),
  of_decide_eq_true (c.fact 106 (f := kitFT "Over" "int" false) rfl),
  of_decide_eq_true (c.fact 107 (f := kitFT "Over" "bool" false) rfl),
  of_decide_eq_true (c.fact 108 (f := kitFT "Over" "list" false) rfl),
  of_decide_eq_true (c.fact 109 (f := kitFT "Over" "tuple" false) rfl),
  of_decide_eq_true (c.fact 110 (f := kitBF "int" "Short" false) rfl),
  of_decide_eq_true (c.fact 111 (f := kitBF "bool" "Short" false) rfl),
  of_decide_eq_true (c.fact 112 (f := kitBF "str" "Short" false) rfl),
  of_decide_eq_true (c.fact 113 (f := kitBF "NoneType" "Short" false) rfl),
  of_decide_eq_true (c.fact 114 (f := kitBF "list" "Short" false) rfl),
  of_decide_eq_true (c.fact 115 (f := kitBF "tuple" "Short" false) rfl),
  of_decide_eq_true (c.fact 116 (f := kitBF "dict" "Short" false) rfl),
  of_decide_eq_true (c.fact 117 (f := kitBF "int" "Over" false) rfl),
  of_decide_eq_true (c.fact 118 (f := kitBF "bool" "Over" false) rfl),
  of_decide_eq_true (c.fact 119 (f := kitBF "str" "Over" false) rfl),
  of_decide_eq_true (c.fact 120 (f := kitBF "NoneType" "Over" false) rfl),
  of_decide_eq_true (c.fact 121 (f := kitBF "list" "Over" false) rfl),
  of_decide_eq_true (c.fact 122 (f := kitBF "tuple" "Over" false) rfl),
  of_decide_eq_true (c.fact 123 (f := kitBF "dict" "Over" false) rfl),
  of_decide_eq_true (c.fact 124 (f := kitBF "int" "At" false) rfl),
  of_decide_eq_true (c.fact 125 (f := kitBF "bool" "At" false) rfl),
  of_decide_eq_true (c.fact 126 (f := kitBF "str" "At" false) rfl),
  of_decide_eq_true (c.fact 127 (f := kitBF "NoneType" "At" false) rfl),
  of_decide_eq_true (c.fact 128 (f := kitBF "list" "At" false) rfl),
  of_decide_eq_true (c.fact 129 (f := kitBF "tuple" "At" false) rfl),
  of_decide_eq_true (c.fact 130 (f := kitBF "dict" "At" false) rfl),
  c.def_ 0 (d := d_is_whole) rfl,
  c.def_ 1 (d := d_is_moment) rfl,
  c.def_ 2 (d := d_want_moment) rfl,
  c.def_ 3 (d := d_clock_of) rfl,
  c.def_ 4 (d := d_show_moment) rfl,
  c.def_ 5 (d := d_is_number) rfl,
  c.def_ 6 (d := d_Short_moments) rfl,
  c.def_ 7 (d := d_Short_pieces) rfl,
  c.def_ 8 (d := d_Short_begins) rfl,
  c.def_ 9 (d := d_Short_ends) rfl,
  c.def_ 10 (d := d_Short_means_many) rfl,
  c.def_ 11 (d := d_Short_nested) rfl,
  c.def_ 12 (d := d_all_rising) rfl,
  c.def_ 13 (d := d_shorts_in) rfl,
  c.def_ 14 (d := d_row_moments) rfl,
  c.def_ 15 (d := d_row_many) rfl,
  c.def_ 16 (d := d_row_pieces) rfl,
  c.def_ 17 (d := d_row_text) rfl,
  c.def_ 18 (d := d_At_init) rfl,
  c.def_ 19 (d := d_At_moments) rfl,
  c.def_ 20 (d := d_At_pieces) rfl,
  c.def_ 21 (d := d_At_begins) rfl,
  c.def_ 22 (d := d_At_ends) rfl,
  c.def_ 23 (d := d_At_means_many) rfl,
  c.def_ 24 (d := d_At_nested) rfl,
  c.def_ 25 (d := d_At_str) rfl,
  c.def_ 26 (d := d_Over_init) rfl,
  c.def_ 27 (d := d_Over_parts) rfl,
  c.def_ 28 (d := d_Over_moments) rfl,
  c.def_ 29 (d := d_Over_pieces) rfl,
  c.def_ 30 (d := d_Over_begins) rfl,
  c.def_ 31 (d := d_Over_ends) rfl,
  c.def_ 32 (d := d_Over_means_many) rfl,
  c.def_ 33 (d := d_Over_nested) rfl,
  c.def_ 34 (d := d_Over_str) rfl,
  c.def_ 35 (d := d__law_pot) rfl,
  c.def_ 36 (d := d__law_draw) rfl,
  c.def_ 37 (d := d__law_near) rfl,
  c.def_ 38 (d := d__law_minutes) rfl,
  c.def_ 39 (d := d__law_over) rfl,
  c.def_ 40 (d := d__law_at_right) rfl,
  c.def_ 41 (d := d__law_told) rfl,
  c.def_ 42 (d := d__law_lists_right) rfl,
  c.def_ 43 (d := d__law_right) rfl,
  c.def_ 44 (d := d_law) rfl⟩
end Toy
open PySem PySem.W PySem.Calls PyProof.Rows
set_option maxRecDepth 100000 in
set_option maxHeartbeats 0 in
theorem PySem.Challenge.cw_shortgoings_k21_times_over_holds : PySem.Challenge.rw_shortgoings_k21_times_over.Holds := by
  w_on; o_law
  refine HandSHeadRun.head_any (r := OpenLaw.row PySem.Challenge.rw_shortgoings_k21_times_over) (q := view (OpenLaw.row PySem.Challenge.rw_shortgoings_k21_times_over).prog [38]) (H := Toy.hk) (ob := Toy.ob) (M := 8000) (loose := Toy.nss) (d := HandSHeadRun.topDef (OpenLaw.row PySem.Challenge.rw_shortgoings_k21_times_over).prog 38) (kwd := []) Toy.ob_eq
    (by kernel_rfl) (fun s => by kernel_rfl) Toy.run (by kernel_rfl) (by kernel_rfl) (by kernel_rfl) (by rfl) (by first | assumption | decide +kernel) (by decide +kernel) ⟨rfl, rfl, rfl, rfl, rfl, by decide +kernel⟩ ?hw ?hc
  case hw => w_witness2
  case hc =>
    refine L3.walk_end (l := PySem.Challenge.rw_shortgoings_k21_times_over) (n := 63) (k := 8) (x := "_law_script") rfl (by decide) (by kernel_rfl) (L3.rm_caller.mono (by decide)) ?F
    intro w mg fa h Y G hmg0
    obtain ⟨K, KX, c⟩ := Y
    have hmg : mg ("law" : PySem.Str) = some (.ref fa) := by
      have e : (HandSHeadRun.topDef (OpenLaw.row PySem.Challenge.rw_shortgoings_k21_times_over).prog 38).name = ("law" : PySem.Str) := by kernel_rfl
      rw [← e]
      exact hmg0
    have T := Toy.env_of KX G c
    have e := hmg.symm.trans T.g_law
    cases e
    obtain ⟨fd, F⟩ := T.f_law
    have b := L2.FunD.bindsA (ps := ["_law_script"]) F fun _ _ _ _ _ _ us hl => match us, hl with | [_], _ => rfl
    exact ⟨K, fd, Toy.sp_law K, KX, fun s v => b s [v] rfl, fun H a ns hl hS => ⟨a, ns, rfl, hS, hl, fun _ => rfl⟩, fun base _ _ => Toy.ok_law T F⟩
